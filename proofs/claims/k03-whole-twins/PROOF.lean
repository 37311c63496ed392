import PyProof.Rows.All
import Wide.All
import OpenK.AllK
import Wide.FinOn
import HandS.ForMost
import HandS.Star
import HandS.Zip
import HandS.Deep
import HandS.TupMul
import HandS.Style
import HandS.More
import HandS.Property
import HandS.MakeKwOnly
import HandS.IsInst
import HandS.Codes
import HandS.Wide
import HandS.Small
import HandS.Conv
import HandS.DictComp
import HandS.ListItems
import KE.KeyNested
import KE.KDictKeyed
import KE.KDictWalk
import KE.KDictItemsList
import KE.KDictDisplayH
import HandS.TupLen
import KE.GoesEnum
import HandS.Head0
import HandS.Head1
import HandS.Head2
import HandS.HeadEnd
import HandS.HeadHook1
import HandS.HeadHook2
import HandS.TupAny
import HandS.Evl
import Lean
import PySem.Challenge.RW_limitwithin_k03_whole_twins
set_option Elab.async false
set_option linter.all false
/-! The plain mathematics: states met in order, first histories apart, classes of twins. No program in sight. -/
namespace KM

/-! ### lists -/
theorem nodup_sub_len {α : Type} [DecidableEq α] : ∀ {l L : List α}, l.Nodup → (∀ x ∈ l, x ∈ L) → l.length ≤ L.length
  | [], _, _, _ => Nat.zero_le _
  | a :: l, L, hn, hs => by
    obtain ⟨h1, h2⟩ := List.nodup_cons.mp hn
    have ha : a ∈ L := hs a List.mem_cons_self
    have hl : l.length ≤ (L.erase a).length := nodup_sub_len h2 fun x hx => by
      have hxa : x ≠ a := fun e => h1 (e ▸ hx)
      exact (List.mem_erase_of_ne hxa).mpr (hs x (List.mem_cons_of_mem _ hx))
    rw [List.length_erase_of_mem ha] at hl
    have : 0 < L.length := List.length_pos_of_mem ha
    simp only [List.length_cons]
    omega

theorem nodup_snoc {α : Type} {l : List α} {a : α} (h : l.Nodup) (ha : a ∉ l) : (l ++ [a]).Nodup := by
  rw [List.nodup_append]
  refine ⟨h, by simp, fun x hx y hy => ?_⟩
  have e : y = a := by simpa using hy
  exact fun q => ha (by rw [← e, ← q]; exact hx)

/-- put a thing behind, if it is not there -/
def add {α : Type} [DecidableEq α] (l : List α) (a : α) : List α := if a ∈ l then l else l ++ [a]
theorem add_nodup {α : Type} [DecidableEq α] {l : List α} {a : α} (h : l.Nodup) : (add l a).Nodup := by
  unfold add; split
  · exact h
  · exact nodup_snoc h ‹_›
theorem mem_add {α : Type} [DecidableEq α] {l : List α} {a x : α} : x ∈ add l a ↔ x ∈ l ∨ x = a := by
  unfold add; split
  · constructor
    · exact .inl
    · rintro (h | rfl)
      · exact h
      · assumption
  · simp
theorem add_pre {α : Type} [DecidableEq α] (l : List α) (a : α) : ∃ r, add l a = l ++ r := by
  unfold add; split
  · exact ⟨[], by simp⟩
  · exact ⟨[a], rfl⟩

section
variable {S A E : Type} [DecidableEq S] [DecidableEq A] (evs : List E) (step : S → E → A × S)

/-! ### the states that can be reached, in order -/
def expand (known : List S) (s : S) : List S := evs.foldl (fun k e => add k (step s e).2) known

/-- n more states are looked at, then all that can be reached are rows -/
inductive Bfs : Nat → List S → Nat → List S → Prop
  | done {known : List S} {at_ : Nat} : known.length ≤ at_ → Bfs 0 known at_ known
  | next {n : Nat} {known rows : List S} {at_ : Nat} {s : S} : known[at_]? = some s → Bfs n (expand evs step known s) (at_ + 1) rows → Bfs (n + 1) known at_ rows

variable {evs step}
theorem foldl_add_pre : ∀ (es : List E) (s : S) (k : List S), ∃ r, es.foldl (fun k e => add k (step s e).2) k = k ++ r
  | [], _, k => ⟨[], by simp⟩
  | e :: es, s, k => by
    obtain ⟨r1, h1⟩ := add_pre k (step s e).2
    obtain ⟨r2, h2⟩ := foldl_add_pre es s (add k (step s e).2)
    exact ⟨r1 ++ r2, by rw [List.foldl_cons, h2, h1, List.append_assoc]⟩
theorem foldl_add_nodup : ∀ (es : List E) (s : S) (k : List S), k.Nodup → (es.foldl (fun k e => add k (step s e).2) k).Nodup
  | [], _, _, h => h
  | _ :: es, s, _, h => foldl_add_nodup es s _ (add_nodup h)
theorem foldl_add_mem : ∀ (es : List E) (s : S) (k : List S) (x : S), x ∈ es.foldl (fun k e => add k (step s e).2) k ↔ x ∈ k ∨ ∃ e ∈ es, x = (step s e).2
  | [], _, _, _ => by simp
  | e :: es, s, k, x => by
    rw [List.foldl_cons, foldl_add_mem es s _ x, mem_add]
    constructor
    · rintro ((h | h) | ⟨e', h, h'⟩)
      · exact .inl h
      · exact .inr ⟨e, List.mem_cons_self, h⟩
      · exact .inr ⟨e', List.mem_cons_of_mem _ h, h'⟩
    · rintro (h | ⟨e', h, h'⟩)
      · exact .inl (.inl h)
      · rcases List.mem_cons.mp h with q | q
        · subst q; exact .inl (.inr h')
        · exact .inr ⟨e', q, h'⟩
theorem Bfs.pre : ∀ {n : Nat} {known : List S} {at_ : Nat} {rows : List S}, Bfs evs step n known at_ rows → ∃ r, rows = known ++ r
  | _, _, _, _, .done _ => ⟨[], by simp⟩
  | _, known, _, _, .next (s := s) _ h => by
    obtain ⟨r, hr⟩ := h.pre
    obtain ⟨r', hr'⟩ := foldl_add_pre (step := step) evs s known
    exact ⟨r' ++ r, by rw [hr]; unfold expand; rw [hr', List.append_assoc]⟩
theorem Bfs.nodup : ∀ {n : Nat} {known : List S} {at_ : Nat} {rows : List S}, Bfs evs step n known at_ rows → known.Nodup → rows.Nodup
  | _, _, _, _, .done _, h => h
  | _, _, _, _, .next _ b, h => b.nodup (foldl_add_nodup evs _ _ h)
/-- what was looked at leads to what is known -/
def ClosedTo (evs : List E) (step : S → E → A × S) (known : List S) (at_ : Nat) : Prop := ∀ i s, i < at_ → known[i]? = some s → ∀ e ∈ evs, (step s e).2 ∈ known
theorem Bfs.closed : ∀ {n : Nat} {known : List S} {at_ : Nat} {rows : List S}, Bfs evs step n known at_ rows → at_ ≤ known.length → ClosedTo evs step known at_ → ∀ s ∈ rows, ∀ e ∈ evs, (step s e).2 ∈ rows
  | _, known, at_, _, .done h, hl, c => fun s hs e he => by
    obtain ⟨i, hi, e'⟩ := List.mem_iff_getElem.mp hs
    exact c i s (by omega) (by rw [List.getElem?_eq_getElem hi, e']) e he
  | _, known, at_, rows, .next (s := s) hs b, hl, c => by
    obtain ⟨r, hr⟩ := foldl_add_pre (step := step) evs s known
    have hlt : at_ < known.length := by
      rcases Nat.lt_or_ge at_ known.length with h | h
      · exact h
      · rw [List.getElem?_eq_none h] at hs; cases hs
    refine b.closed (by unfold expand; rw [hr, List.length_append]; omega) fun i t hi ht e he => ?_
    unfold expand
    unfold expand at ht
    rw [foldl_add_mem]
    have hik : i < known.length := by omega
    rw [hr, List.getElem?_append_left hik] at ht
    rcases Nat.lt_or_ge i at_ with h | h
    · exact .inl (c i t h ht e he)
    · have e2 : i = at_ := by omega
      subst e2
      rw [hs] at ht
      cases ht
      exact .inr ⟨e, he, rfl⟩
theorem Bfs.next_inv {n : Nat} {known rows : List S} {at_ : Nat} {s : S} (b : Bfs evs step n known at_ rows) (h : known[at_]? = some s) : ∃ m, n = m + 1 ∧ Bfs evs step m (expand evs step known s) (at_ + 1) rows := by
  cases b with
  | done hl => rw [List.getElem?_eq_none hl] at h; cases h
  | next hs b =>
    rw [hs] at h; cases h
    exact ⟨_, rfl, b⟩
theorem Bfs.done_inv {n : Nat} {known rows : List S} {at_ : Nat} (b : Bfs evs step n known at_ rows) (h : known.length ≤ at_) : n = 0 ∧ rows = known := by
  cases b with
  | done _ => exact ⟨rfl, rfl⟩
  | next hs _ => rw [List.getElem?_eq_none h] at hs; cases hs

/-! ### answers and twins -/
/-- the answers to a history -/
def answers (step : S → E → A × S) : S → List E → List A
  | _, [] => []
  | s, e :: es => (step s e).1 :: answers step (step s e).2 es
/-- the state behind a history -/
def after (step : S → E → A × S) : S → List E → S
  | s, [] => s
  | s, e :: es => after step (step s e).2 es
def Tw (evs : List E) (step : S → E → A × S) (s t : S) : Prop := ∀ es : List E, (∀ e ∈ es, e ∈ evs) → answers step s es = answers step t es
theorem Tw.refl (s : S) : Tw evs step s s := fun _ _ => rfl
theorem Tw.symm {s t : S} (h : Tw evs step s t) : Tw evs step t s := fun es he => (h es he).symm
theorem Tw.trans {s t u : S} (h : Tw evs step s t) (k : Tw evs step t u) : Tw evs step s u := fun es he => (h es he).trans (k es he)
theorem Tw.ans {s t : S} (h : Tw evs step s t) {e : E} (he : e ∈ evs) : (step s e).1 = (step t e).1 := by
  have := h [e] (by simpa using he)
  simpa [answers] using this
theorem Tw.next {s t : S} (h : Tw evs step s t) {e : E} (he : e ∈ evs) : Tw evs step (step s e).2 (step t e).2 := fun es hs => by
  have := h (e :: es) (by simpa using ⟨he, hs⟩)
  simpa [answers] using (List.cons.inj this).2
/-- a relation that keeps the answers and itself holds twins alone -/
theorem tw_of {R : S → S → Prop} (ha : ∀ s t, R s t → ∀ e ∈ evs, (step s e).1 = (step t e).1) (hn : ∀ s t, R s t → ∀ e ∈ evs, R (step s e).2 (step t e).2) : ∀ {s t : S}, R s t → Tw evs step s t := by
  intro s t h es
  induction es generalizing s t with
  | nil => intro _; rfl
  | cons e es ih =>
    intro he
    have h1 : e ∈ evs := he e List.mem_cons_self
    show (step s e).1 :: _ = (step t e).1 :: _
    rw [ha s t h e h1]
    exact congrArg _ (ih (hn s t h e h1) fun x hx => he x (List.mem_cons_of_mem _ hx))

/-- a history has different answers for the last event alone -/
def speaks (step : S → E → A × S) : S → S → List E → Bool
  | _, _, [] => false
  | s, t, [e] => decide ((step s e).1 ≠ (step t e).1)
  | s, t, e :: es => if (step s e).1 ≠ (step t e).1 then false else speaks step (step s e).2 (step t e).2 es
/-- the loop that looks at it: par: the last answers were different -/
def spk (step : S → E → A × S) : Bool → S → S → List E → Bool
  | par, _, _, [] => par
  | par, s, t, e :: es => if par = true then false else spk step (decide ((step s e).1 ≠ (step t e).1)) (step s e).2 (step t e).2 es
theorem spk_true : ∀ (es : List E) (s t : S), spk step true s t es = decide (es = [])
  | [], _, _ => by simp [spk]
  | e :: es, _, _ => by simp [spk]
/-- equal answers all along h -/
theorem spk_along : ∀ (h : List E) (s t : S) (r : List E), answers step s h = answers step t h → spk step false s t (h ++ r) = spk step false (after step s h) (after step t h) r
  | [], _, _, _, _ => rfl
  | e :: h, s, t, r, he => by
    have h1 := List.cons.inj (show (step s e).1 :: answers step (step s e).2 h = (step t e).1 :: answers step (step t e).2 h from he)
    show spk step (decide ((step s e).1 ≠ (step t e).1)) (step s e).2 (step t e).2 (h ++ r) = _
    have e0 : decide ((step s e).1 ≠ (step t e).1) = false := decide_eq_false (fun q => q h1.1)
    rw [e0]
    exact spk_along h _ _ r h1.2

/-! ### the first history apart -/
/-- the events from a pair p, met first by the history h -/
def scan (step : S → E → A × S) (p : S × S) (h : List E) : List E → List ((S × S) × List E) → List E ⊕ List ((S × S) × List E)
  | [], m => .inr m
  | e :: es, m =>
    if (step p.1 e).1 ≠ (step p.2 e).1 then .inl (h ++ [e])
    else scan step p h es (if ((step p.1 e).2, (step p.2 e).2) ∈ m.map (·.1) then m else m ++ [(((step p.1 e).2, (step p.2 e).2), h ++ [e])])
inductive Apt (evs : List E) (step : S → E → A × S) : Nat → List ((S × S) × List E) → Nat → Option (List E) → Prop
  | done {m : List ((S × S) × List E)} {at_ : Nat} : m.length ≤ at_ → Apt evs step 0 m at_ none
  | found {m : List ((S × S) × List E)} {at_ : Nat} {p : S × S} {h r : List E} : m[at_]? = some (p, h) → scan step p h evs m = .inl r → Apt evs step 0 m at_ (some r)
  | next {n : Nat} {m m' : List ((S × S) × List E)} {at_ : Nat} {p : S × S} {h : List E} {r : Option (List E)} : m[at_]? = some (p, h) → scan step p h evs m = .inr m' → Apt evs step n m' (at_ + 1) r → Apt evs step (n + 1) m at_ r

theorem Apt.det : ∀ {n n' : Nat} {m : List ((S × S) × List E)} {at_ : Nat} {r r' : Option (List E)}, Apt evs step n m at_ r → Apt evs step n' m at_ r' → r = r'
  | _, _, _, _, _, _, .done h, k => by
    cases k with
    | done _ => rfl
    | found h' _ => rw [List.getElem?_eq_none h] at h'; cases h'
    | next h' _ _ => rw [List.getElem?_eq_none h] at h'; cases h'
  | _, _, _, _, _, _, .found h h2, k => by
    cases k with
    | done h' => rw [List.getElem?_eq_none h'] at h; cases h
    | found h' h3 =>
      rw [h] at h'; cases h'
      rw [h2] at h3; cases h3; rfl
    | next h' h3 _ =>
      rw [h] at h'; cases h'
      rw [h2] at h3; cases h3
  | _, _, _, _, _, _, .next h h2 b, k => by
    cases k with
    | done h' => rw [List.getElem?_eq_none h'] at h; cases h
    | found h' h3 =>
      rw [h] at h'; cases h'
      rw [h2] at h3; cases h3
    | next h' h3 b' =>
      rw [h] at h'; cases h'
      rw [h2] at h3; cases h3
      exact b.det b'

/-- what is known of the pairs that are met: each is led to by its history, with equal answers on the way -/
def Led (evs : List E) (step : S → E → A × S) (one other : S) (m : List ((S × S) × List E)) : Prop :=
  ∀ x ∈ m, answers step one x.2 = answers step other x.2 ∧ after step one x.2 = x.1.1 ∧ after step other x.2 = x.1.2 ∧ ∀ e ∈ x.2, e ∈ evs
theorem answers_snoc : ∀ (h : List E) (s : S) (e : E), answers step s (h ++ [e]) = answers step s h ++ [(step (after step s h) e).1]
  | [], _, _ => rfl
  | _ :: h, s, e => by
    show _ :: answers step _ (h ++ [e]) = _
    rw [answers_snoc h]; rfl
theorem after_snoc : ∀ (h : List E) (s : S) (e : E), after step s (h ++ [e]) = (step (after step s h) e).2
  | [], _, _ => rfl
  | _ :: h, _, e => after_snoc h _ e
theorem answers_append : ∀ (h k : List E) (s : S), answers step s (h ++ k) = answers step s h ++ answers step (after step s h) k
  | [], _, _ => rfl
  | _ :: h, k, _ => by
    show _ :: answers step _ (h ++ k) = _
    rw [answers_append h]; rfl
theorem Led.more {one other : S} {m : List ((S × S) × List E)} {p : S × S} {h : List E} {e : E} (L : Led evs step one other m) (hx : (p, h) ∈ m) (he : e ∈ evs) (ea : (step p.1 e).1 = (step p.2 e).1) :
    Led evs step one other (m ++ [(((step p.1 e).2, (step p.2 e).2), h ++ [e])]) := fun x hm => by
  rcases List.mem_append.mp hm with q | q
  · exact L x q
  · have q' : x = (((step p.1 e).2, (step p.2 e).2), h ++ [e]) := by simpa using q
    subst q'
    obtain ⟨h1, h2, h3, h4⟩ := L _ hx
    have h2' : after step one h = p.1 := h2
    have h3' : after step other h = p.2 := h3
    refine ⟨?_, ?_, ?_, ?_⟩
    · show answers step one (h ++ [e]) = answers step other (h ++ [e])
      rw [answers_snoc, answers_snoc, h2', h3', ea]
      exact congrArg (· ++ _) h1
    · show after step one (h ++ [e]) = _
      rw [after_snoc, h2']
    · show after step other (h ++ [e]) = _
      rw [after_snoc, h3']
    · intro x hx
      rcases List.mem_append.mp hx with q | q
      · exact h4 x q
      · have q' : x = e := by simpa using q
        rw [q']; exact he
theorem scan_inl {one other : S} : ∀ {es : List E} {m : List ((S × S) × List E)} {p : S × S} {h r : List E}, scan step p h es m = .inl r → (∀ e ∈ es, e ∈ evs) → Led evs step one other m → (p, h) ∈ m →
    ∃ e, e ∈ evs ∧ r = h ++ [e] ∧ answers step one h = answers step other h ∧ (step (after step one h) e).1 ≠ (step (after step other h) e).1
  | [], _, _, _, _, q, _, _, _ => by cases q
  | e :: es, m, p, h, r, q, hes, L, hm => by
    unfold scan at q
    by_cases hc : (step p.1 e).1 ≠ (step p.2 e).1
    · rw [if_pos hc] at q
      cases q
      obtain ⟨h1, h2, h3, _⟩ := L _ hm
      exact ⟨e, hes e List.mem_cons_self, rfl, h1, by rw [show after step one h = p.1 from h2, show after step other h = p.2 from h3]; exact hc⟩
    · rw [if_neg hc] at q
      have ea := Decidable.not_not.mp hc
      split at q
      · exact scan_inl q (fun x hx => hes x (List.mem_cons_of_mem _ hx)) L hm
      · exact scan_inl q (fun x hx => hes x (List.mem_cons_of_mem _ hx)) (L.more hm (hes e List.mem_cons_self) ea) (List.mem_append_left _ hm)
theorem scan_inr {one other : S} : ∀ {es : List E} {m m' : List ((S × S) × List E)} {p : S × S} {h : List E}, scan step p h es m = .inr m' → (∀ e ∈ es, e ∈ evs) → Led evs step one other m → (p, h) ∈ m →
    Led evs step one other m' ∧ (∃ r, m' = m ++ r) ∧ (∀ e ∈ es, (step p.1 e).1 = (step p.2 e).1) ∧ (∀ e ∈ es, ((step p.1 e).2, (step p.2 e).2) ∈ m'.map (·.1)) ∧ ((m.map (·.1)).Nodup → (m'.map (·.1)).Nodup)
  | [], m, m', _, _, q, _, L, _ => by
    cases q
    exact ⟨L, ⟨[], by simp⟩, (fun _ h => by cases h), (fun _ h => by cases h), id⟩
  | e :: es, m, m', p, h, q, hes, L, hm => by
    unfold scan at q
    by_cases hc : (step p.1 e).1 ≠ (step p.2 e).1
    · rw [if_pos hc] at q; cases q
    · rw [if_neg hc] at q
      have ea := Decidable.not_not.mp hc
      have hes' : ∀ x ∈ es, x ∈ evs := fun x hx => hes x (List.mem_cons_of_mem _ hx)
      split at q
      · rename_i hin
        obtain ⟨L', ⟨r, hr⟩, h1, h2, h3⟩ := scan_inr q hes' L hm
        refine ⟨L', ⟨r, hr⟩, fun x hx => ?_, fun x hx => ?_, h3⟩
        · rcases List.mem_cons.mp hx with k | k
          · rw [k]; exact ea
          · exact h1 x k
        · rcases List.mem_cons.mp hx with k | k
          · rw [k, hr, List.map_append]
            exact List.mem_append_left _ hin
          · exact h2 x k
      · rename_i hin
        obtain ⟨L', ⟨r, hr⟩, h1, h2, h3⟩ := scan_inr q hes' (L.more hm (hes e List.mem_cons_self) ea) (List.mem_append_left _ hm)
        refine ⟨L', ⟨_ :: r, by rw [hr, List.append_assoc]; rfl⟩, fun x hx => ?_, fun x hx => ?_, fun hn => h3 ?_⟩
        · rcases List.mem_cons.mp hx with k | k
          · rw [k]; exact ea
          · exact h1 x k
        · rcases List.mem_cons.mp hx with k | k
          · rw [k, hr, List.map_append]
            exact List.mem_append_left _ (by simp)
          · exact h2 x k
        · rw [List.map_append]
          exact nodup_snoc hn hin

/-- a history that is found tells the two apart, by its last event alone -/
theorem Apt.some_spk {one other : S} : ∀ {n : Nat} {m : List ((S × S) × List E)} {at_ : Nat} {r : List E}, Apt evs step n m at_ (some r) → Led evs step one other m →
    spk step false one other r = true ∧ (∀ e ∈ r, e ∈ evs) ∧ ¬ Tw evs step one other
  | _, m, _, r, .found (p := p) (h := h) hm hs, L => by
    have hmem := List.mem_of_getElem? hm
    obtain ⟨e, he, rfl, h1, h2⟩ := scan_inl hs (fun _ h => h) L hmem
    have h4 := (L _ hmem).2.2.2
    have hall : ∀ x ∈ h ++ [e], x ∈ evs := fun x hx => by
      rcases List.mem_append.mp hx with q | q
      · exact h4 x q
      · have q' : x = e := by simpa using q
        rw [q']; exact he
    refine ⟨?_, hall, fun tw => ?_⟩
    · rw [spk_along h one other [e] h1]
      exact decide_eq_true h2
    · have := tw (h ++ [e]) hall
      rw [answers_snoc, answers_snoc, h1] at this
      have := List.append_cancel_left this
      exact h2 (by simpa using this)
  | _, m, _, r, .next hm hs b, L => by
    obtain ⟨L', _⟩ := scan_inr hs (fun _ h => h) L (List.mem_of_getElem? hm)
    exact b.some_spk L'
/-- what was looked at has equal answers and leads to what is met -/
def Quiet (evs : List E) (step : S → E → A × S) (m : List ((S × S) × List E)) (at_ : Nat) : Prop :=
  ∀ i x, i < at_ → m[i]? = some x → ∀ e ∈ evs, (step x.1.1 e).1 = (step x.1.2 e).1 ∧ ((step x.1.1 e).2, (step x.1.2 e).2) ∈ m.map (·.1)
theorem Apt.none_tw {one other : S} : ∀ {n : Nat} {m : List ((S × S) × List E)} {at_ : Nat}, Apt evs step n m at_ none → Led evs step one other m → at_ ≤ m.length → Quiet evs step m at_ → ∀ x ∈ m, Tw evs step x.1.1 x.1.2
  | _, m, at_, .done h, L, hl, q => fun x hx => by
    have key : ∀ s t : S, (s, t) ∈ m.map (·.1) → Tw evs step s t := fun s t hst => by
      refine tw_of (R := fun s t => (s, t) ∈ m.map (·.1)) (fun s t hm e he => ?_) (fun s t hm e he => ?_) hst
      · obtain ⟨y, hy, ey⟩ := List.mem_map.mp hm
        obtain ⟨i, hi, e'⟩ := List.mem_iff_getElem.mp hy
        have := (q i y (by omega) (by rw [List.getElem?_eq_getElem hi, e']) e he).1
        rw [ey] at this; exact this
      · obtain ⟨y, hy, ey⟩ := List.mem_map.mp hm
        obtain ⟨i, hi, e'⟩ := List.mem_iff_getElem.mp hy
        have := (q i y (by omega) (by rw [List.getElem?_eq_getElem hi, e']) e he).2
        rw [ey] at this; exact this
    exact key _ _ (List.mem_map.mpr ⟨x, hx, rfl⟩)
  | _, m, at_, .next (p := p) (h := h) hm hs b, L, hl, q => fun x hx => by
    have hmem := List.mem_of_getElem? hm
    obtain ⟨L', ⟨r, hr⟩, h1, h2, _⟩ := scan_inr hs (fun _ h => h) L hmem
    have hlt : at_ < m.length := by
      rcases Nat.lt_or_ge at_ m.length with h | h
      · exact h
      · rw [List.getElem?_eq_none h] at hm; cases hm
    refine b.none_tw L' (by rw [hr, List.length_append]; omega) (fun i y hi hy e he => ?_) x (by rw [hr]; exact List.mem_append_left _ hx)
    have him : i < m.length := by omega
    rw [hr, List.getElem?_append_left him] at hy
    rcases Nat.lt_or_ge i at_ with k | k
    · obtain ⟨k1, k2⟩ := q i y k hy e he
      exact ⟨k1, by rw [hr, List.map_append]; exact List.mem_append_left _ k2⟩
    · have e2 : i = at_ := by omega
      subst e2
      rw [hm] at hy
      cases hy
      exact ⟨h1 e he, h2 e he⟩

/-- in a finite set that the events don't leave, the search ends -/
theorem apt_ends {R : List S} (hc : ∀ s ∈ R, ∀ e ∈ evs, (step s e).2 ∈ R) {one other : S} : ∀ (k : Nat) (m : List ((S × S) × List E)) (at_ : Nat), R.length * R.length + 1 ≤ at_ + k → Led evs step one other m → (m.map (·.1)).Nodup → (∀ x ∈ m, x.1.1 ∈ R ∧ x.1.2 ∈ R) →
    ∃ n r, Apt evs step n m at_ r := by
  have big : ∀ m : List ((S × S) × List E), (m.map (·.1)).Nodup → (∀ x ∈ m, x.1.1 ∈ R ∧ x.1.2 ∈ R) → m.length ≤ R.length * R.length := fun m hn hR => by
    have h := nodup_sub_len (L := R.flatMap fun a => R.map fun b => (a, b)) hn fun p hp => by
      obtain ⟨x, hx, e⟩ := List.mem_map.mp hp
      obtain ⟨h1, h2⟩ := hR x hx
      rw [← e]
      exact List.mem_flatMap.mpr ⟨x.1.1, h1, List.mem_map.mpr ⟨x.1.2, h2, rfl⟩⟩
    rw [List.length_map] at h
    refine Nat.le_trans h (Nat.le_of_eq ?_)
    have all : ∀ L : List S, (L.flatMap fun a => R.map fun b => (a, b)).length = L.length * R.length := fun L => by
      induction L with
      | nil => simp
      | cons a L ih => rw [List.flatMap_cons, List.length_append, ih, List.length_map, List.length_cons, Nat.succ_mul, Nat.add_comm]
    exact all R
  intro k
  induction k with
  | zero =>
    intro m at_ hk L hn hR
    exact ⟨0, none, .done (by have := big m hn hR; omega)⟩
  | succ k ih =>
    intro m at_ hk L hn hR
    cases hm : m[at_]? with
    | none => exact ⟨0, none, .done (List.getElem?_eq_none_iff.mp hm)⟩
    | some x =>
      obtain ⟨p, h⟩ := x
      have hmem := List.mem_of_getElem? hm
      cases hs : scan step p h evs m with
      | inl r => exact ⟨0, some r, .found hm hs⟩
      | inr m' =>
        obtain ⟨L', ⟨r, hr⟩, _, _, h3⟩ := scan_inr hs (fun _ h => h) L hmem
        have hR' : ∀ x ∈ m', x.1.1 ∈ R ∧ x.1.2 ∈ R := by
          have gen : ∀ (es : List E) (m m' : List ((S × S) × List E)), (∀ e ∈ es, e ∈ evs) → scan step p h es m = .inr m' → (∀ x ∈ m, x.1.1 ∈ R ∧ x.1.2 ∈ R) → p.1 ∈ R ∧ p.2 ∈ R → ∀ x ∈ m', x.1.1 ∈ R ∧ x.1.2 ∈ R := by
            intro es
            induction es with
            | nil => intro m m' _ q hR _; cases q; exact hR
            | cons e es ih =>
              intro m m' hes q hR hp
              unfold scan at q
              split at q
              · cases q
              · refine ih _ _ (fun x hx => hes x (List.mem_cons_of_mem _ hx)) q ?_ hp
                split
                · exact hR
                · intro x hx
                  rcases List.mem_append.mp hx with z | z
                  · exact hR x z
                  · have z' : x = (((step p.1 e).2, (step p.2 e).2), h ++ [e]) := by simpa using z
                    rw [z']
                    exact ⟨hc _ hp.1 e (hes e List.mem_cons_self), hc _ hp.2 e (hes e List.mem_cons_self)⟩
          exact gen evs m m' (fun _ h => h) hs hR (hR _ hmem)
        obtain ⟨n, r', b⟩ := ih m' (at_ + 1) (by omega) L' (h3 hn) hR'
        exact ⟨n + 1, r', .next hm hs b⟩
theorem led_start (one other : S) : Led evs step one other [((one, other), [])] := fun x hx => by
  have e : x = ((one, other), []) := by simpa using hx
  rw [e]
  exact ⟨rfl, rfl, rfl, fun _ h => by cases h⟩
theorem apt_all {R : List S} (hc : ∀ s ∈ R, ∀ e ∈ evs, (step s e).2 ∈ R) {one other : S} (h1 : one ∈ R) (h2 : other ∈ R) : ∃ n r, Apt evs step n [((one, other), [])] 0 r :=
  apt_ends hc (one := one) (other := other) (R.length * R.length + 1) _ 0 (by omega) (led_start one other) (by simp) (fun x hx => by
    have e : x = ((one, other), []) := by simpa using hx
    rw [e]; exact ⟨h1, h2⟩)
/-- nothing is found for twins alone -/
theorem apt_tw {one other : S} {n : Nat} {r : Option (List E)} (h : Apt evs step n [((one, other), [])] 0 r) : r = none ↔ Tw evs step one other := by
  cases r with
  | none =>
    refine ⟨fun _ => ?_, fun _ => rfl⟩
    have := h.none_tw (led_start one other) (by simp) (fun i x hi _ => absurd hi (Nat.not_lt_zero _)) _ (List.mem_singleton.mpr rfl)
    exact this
  | some r =>
    obtain ⟨_, _, h3⟩ := h.some_spk (led_start one other)
    exact ⟨fun e => (by cases e), fun t => absurd t h3⟩
end
end KM

set_option Elab.async false
set_option linter.all false
set_option maxRecDepth 100000
/-! Numbering, refinement, classes: plain lists. -/
namespace KM

section
variable {α β : Type} [DecidableEq α] [DecidableEq β]
/-- the different ones, in the order of their first coming -/
def uniq (l : List α) : List α := l.foldl add []
theorem uniq_snoc (l : List α) (a : α) : uniq (l ++ [a]) = add (uniq l) a := by unfold uniq; rw [List.foldl_append]; rfl
theorem snoc_ind {P : List α → Prop} (h0 : P []) (hs : ∀ l a, P l → P (l ++ [a])) (l : List α) : P l := by
  have : ∀ n (l : List α), l.length = n → P l := fun n => by
    induction n with
    | zero => intro l h; rw [List.length_eq_zero_iff.mp h]; exact h0
    | succ n ih =>
      intro l h
      have hne : l ≠ [] := fun e => by rw [e] at h; simp at h
      rw [← List.dropLast_concat_getLast hne]
      exact hs _ _ (ih _ (by rw [List.length_dropLast, h]; rfl))
  exact this _ l rfl
theorem uniq_nodup (l : List α) : (uniq l).Nodup := snoc_ind (P := fun l => (uniq l).Nodup) List.nodup_nil (fun l a h => by rw [uniq_snoc]; exact add_nodup h) l
theorem mem_uniq {l : List α} {a : α} : a ∈ uniq l ↔ a ∈ l := snoc_ind (P := fun l => ∀ a, a ∈ uniq l ↔ a ∈ l) (fun a => Iff.rfl) (fun l b ih a => by
  rw [uniq_snoc, mem_add, ih]; simp) l a
theorem uniq_pre (l r : List α) : ∃ m, uniq (l ++ r) = uniq l ++ m := snoc_ind (P := fun r => ∃ m, uniq (l ++ r) = uniq l ++ m) ⟨[], by simp⟩ (fun r a ⟨m, h⟩ => by
  rw [← List.append_assoc, uniq_snoc, h]
  obtain ⟨q, hq⟩ := add_pre (uniq l ++ m) a
  exact ⟨m ++ q, by rw [hq, List.append_assoc]⟩) r
theorem uniq_len (l : List α) : (uniq l).length ≤ l.length := snoc_ind (P := fun l => (uniq l).length ≤ l.length) (Nat.le_refl _) (fun l a h => by
  rw [uniq_snoc, List.length_append]
  unfold add
  split
  · simp; omega
  · simp; omega) l
def ixOf (l : List α) (a : α) : Nat := l.idxOf a
theorem idx_app {l r : List α} {a : α} (h : a ∈ l) : (l ++ r).idxOf a = l.idxOf a := by rw [List.idxOf_append, if_pos h]
theorem idx_inj {l : List α} {a b : α} (ha : a ∈ l) (hb : b ∈ l) (e : l.idxOf a = l.idxOf b) : a = b := by
  have h1 := List.getElem_idxOf (List.idxOf_lt_length_iff.mpr ha)
  have h2 := List.getElem_idxOf (List.idxOf_lt_length_iff.mpr hb)
  rw [← h1, ← h2]; congr 1
theorem idx_new {l : List α} {a : α} (h : a ∉ l) : (l ++ [a]).idxOf a = l.length := by
  rw [List.idxOf_append, if_neg h]; simp
theorem ix_self {l : List α} {a : α} : ixOf (a :: l) a = 0 := by unfold ixOf; rw [List.idxOf_cons_self]
theorem ix_ne {l : List α} {a b : α} (e : b ≠ a) : ixOf (b :: l) a = ixOf l a + 1 := by unfold ixOf; rw [List.idxOf_cons, beq_eq_false_iff_ne.mpr e]; rfl
theorem ix_lt {l : List α} {a : α} (h : a ∈ l) : ixOf l a < l.length := List.idxOf_lt_length_iff.mpr h
theorem ix_new {l : List α} {a : α} (h : a ∉ l) : ixOf (l ++ [a]) a = l.length := idx_new h
/-- fewer numbers by a coarser key -/
theorem uniq_coarse {l : List α} {f : α → β} : (uniq (l.map f)).length ≤ (uniq l).length := by
  refine Nat.le_trans (nodup_sub_len (L := (uniq l).map f) (uniq_nodup _) fun x hx => ?_) (by rw [List.length_map]; exact Nat.le_refl _)
  obtain ⟨a, ha, rfl⟩ := List.mem_map.mp (mem_uniq.mp hx)
  exact List.mem_map.mpr ⟨a, mem_uniq.mpr ha, rfl⟩
theorem nodup_map_len {l : List α} {f : α → β} (hl : l.Nodup) (h : (uniq (l.map f)).length = l.length) : ∀ a ∈ l, ∀ b ∈ l, f a = f b → a = b := by
  intro a ha b hb e
  apply Classical.byContradiction
  intro ne
  have hb' : b ∈ l.erase a := (List.mem_erase_of_ne (fun q => ne q.symm)).mpr hb
  have h1 : (uniq (l.map f)).length ≤ ((l.erase a).map f).length := nodup_sub_len (uniq_nodup _) fun x hx => by
    obtain ⟨c, hc, rfl⟩ := List.mem_map.mp (mem_uniq.mp hx)
    by_cases q : c = a
    · subst q; exact List.mem_map.mpr ⟨b, hb', e.symm⟩
    · exact List.mem_map.mpr ⟨c, (List.mem_erase_of_ne q).mpr hc, rfl⟩
  rw [List.length_map, List.length_erase_of_mem ha] at h1
  have : 0 < l.length := List.length_pos_of_mem ha
  omega
end

/-! ### the numbering by a key -/
section
variable {S α : Type} [DecidableEq S] [DecidableEq α]
def numOf (rows : List S) (k : S → α) (v : S) : Nat := (uniq (rows.map k)).idxOf (k v)
theorem num_eq {rows : List S} {k : S → α} {v w : S} (hv : v ∈ rows) (hw : w ∈ rows) : numOf rows k v = numOf rows k w ↔ k v = k w :=
  ⟨idx_inj (mem_uniq.mpr (List.mem_map.mpr ⟨v, hv, rfl⟩)) (mem_uniq.mpr (List.mem_map.mpr ⟨w, hw, rfl⟩)), fun e => by unfold numOf; rw [e]⟩
/-- numbers come in order: an old one, or the next -/
def InOrder (rows : List S) (f : S → Nat) : Prop := ∀ (pre : List S) (v : S) (post : List S), rows = pre ++ v :: post → (∃ w ∈ pre, f w = f v) ∨ f v = (uniq (pre.map f)).length
theorem uniq_map_inj {l : List S} {f : S → α} {g : S → Nat} (h : ∀ a ∈ l, ∀ b ∈ l, f a = f b ↔ g a = g b) : (uniq (l.map f)).length = (uniq (l.map g)).length := by
  revert h
  refine snoc_ind (P := fun l => (∀ a ∈ l, ∀ b ∈ l, f a = f b ↔ g a = g b) → (uniq (l.map f)).length = (uniq (l.map g)).length) (fun _ => rfl) (fun l a ih h => ?_) l
  have ih := ih fun x hx y hy => h x (List.mem_append_left _ hx) y (List.mem_append_left _ hy)
  rw [List.map_append, List.map_append, List.map_singleton, List.map_singleton, uniq_snoc, uniq_snoc]
  have e : f a ∈ uniq (l.map f) ↔ g a ∈ uniq (l.map g) := by
    rw [mem_uniq, mem_uniq, List.mem_map, List.mem_map]
    constructor
    · rintro ⟨b, hb, q⟩
      exact ⟨b, hb, (h b (List.mem_append_left _ hb) a (by simp)).mp q⟩
    · rintro ⟨b, hb, q⟩
      exact ⟨b, hb, (h b (List.mem_append_left _ hb) a (by simp)).mpr q⟩
  unfold add
  by_cases q : f a ∈ uniq (l.map f)
  · rw [if_pos q, if_pos (e.mp q), ih]
  · rw [if_neg q, if_neg (fun z => q (e.mpr z)), List.length_append, List.length_append, ih]; rfl
theorem num_order (rows : List S) (k : S → α) : InOrder rows (numOf rows k) := fun pre v post e => by
  have hv : v ∈ rows := by rw [e]; simp
  by_cases h : k v ∈ pre.map k
  · obtain ⟨w, hw, q⟩ := List.mem_map.mp h
    exact .inl ⟨w, hw, (num_eq (by rw [e]; exact List.mem_append_left _ hw) hv).mpr q⟩
  · right
    have e1 : uniq (pre.map k ++ [k v]) = uniq (pre.map k) ++ [k v] := by rw [uniq_snoc]; unfold add; rw [if_neg (fun z => h (mem_uniq.mp z))]
    obtain ⟨m, hm⟩ := uniq_pre (pre.map k ++ [k v]) (post.map k)
    have e2 : rows.map k = pre.map k ++ [k v] ++ post.map k := by rw [e]; simp
    have e3 : numOf rows k v = (uniq (pre.map k)).length := by
      unfold numOf
      rw [e2, hm, e1, idx_app (by simp), idx_new (fun z => h (mem_uniq.mp z))]
    rw [e3]
    exact uniq_map_inj fun a ha b hb => (num_eq (by rw [e]; exact List.mem_append_left _ ha) (by rw [e]; exact List.mem_append_left _ hb)).symm
end

/-! ### refinement -/
section
variable {S A E : Type} [DecidableEq S] [DecidableEq A] (evs : List E) (step : S → E → A × S) (rows : List S)
def keyF (f : S → Nat) (v : S) : Nat × List (A × Nat) := (f v, evs.map fun e => ((step v e).1, f (step v e).2))
def regroup (f : S → Nat) : S → Nat := numOf rows (keyF evs step f)
def cnt (f : S → Nat) : Nat := (uniq (rows.map f)).length
variable {evs step rows}
theorem key_eq {f : S → Nat} {v w : S} : keyF evs step f v = keyF evs step f w ↔ f v = f w ∧ ∀ e ∈ evs, (step v e).1 = (step w e).1 ∧ f (step v e).2 = f (step w e).2 := by
  unfold keyF
  rw [Prod.mk.injEq, List.map_inj_left]
  simp only [Prod.mk.injEq]
/-- what the loop keeps: twins have one number -/
def Keeps (evs : List E) (step : S → E → A × S) (rows : List S) (f : S → Nat) : Prop := ∀ v ∈ rows, ∀ w ∈ rows, Tw evs step v w → f v = f w
theorem keeps_re {f : S → Nat} (hc : ∀ s ∈ rows, ∀ e ∈ evs, (step s e).2 ∈ rows) (h : Keeps evs step rows f) : Keeps evs step rows (regroup evs step rows f) := fun v hv w hw t =>
  (num_eq hv hw).mpr (key_eq.mpr ⟨h v hv w hw t, fun e he => ⟨t.ans he, h _ (hc v hv e he) _ (hc w hw e he) (t.next he)⟩⟩)
theorem re_finer {f : S → Nat} {v w : S} (hv : v ∈ rows) (hw : w ∈ rows) (h : regroup evs step rows f v = regroup evs step rows f w) : f v = f w := (key_eq.mp ((num_eq hv hw).mp h)).1
theorem cnt_re {f : S → Nat} : cnt rows f ≤ cnt rows (regroup evs step rows f) := by
  unfold cnt
  rw [show (uniq (rows.map (regroup evs step rows f))).length = (uniq (rows.map (keyF evs step f))).length from (uniq_map_inj fun a ha b hb => (num_eq ha hb).symm).symm]
  have e : rows.map f = (rows.map (keyF evs step f)).map (·.1) := by rw [List.map_map]; rfl
  rw [e]
  exact uniq_coarse
/-- no more numbers than before: the numbers were right -/
theorem re_stable {f : S → Nat} (hc : ∀ s ∈ rows, ∀ e ∈ evs, (step s e).2 ∈ rows) (h : cnt rows (regroup evs step rows f) ≤ cnt rows f) {v w : S} (hv : v ∈ rows) (hw : w ∈ rows) (q : f v = f w) : Tw evs step v w := by
  have e1 : (uniq (rows.map (regroup evs step rows f))).length = (uniq (rows.map (keyF evs step f))).length := (uniq_map_inj fun a ha b hb => (num_eq ha hb).symm).symm
  have e2 : (uniq ((uniq (rows.map (keyF evs step f))).map (·.1))).length = (uniq (rows.map (keyF evs step f))).length := by
    have a1 : (uniq ((uniq (rows.map (keyF evs step f))).map (·.1))).length ≤ (uniq (rows.map (keyF evs step f))).length := Nat.le_trans (uniq_len _) (by rw [List.length_map]; exact Nat.le_refl _)
    have a2 : (uniq (rows.map f)).length ≤ (uniq ((uniq (rows.map (keyF evs step f))).map (·.1))).length := nodup_sub_len (uniq_nodup _) fun x hx => by
      obtain ⟨s, hs, rfl⟩ := List.mem_map.mp (mem_uniq.mp hx)
      exact mem_uniq.mpr (List.mem_map.mpr ⟨keyF evs step f s, mem_uniq.mpr (List.mem_map.mpr ⟨s, hs, rfl⟩), rfl⟩)
    unfold cnt at h
    omega
  have inj := nodup_map_len (uniq_nodup (rows.map (keyF evs step f))) e2
  have bis : ∀ a ∈ rows, ∀ b ∈ rows, f a = f b → keyF evs step f a = keyF evs step f b := fun a ha b hb q =>
    inj _ (mem_uniq.mpr (List.mem_map.mpr ⟨a, ha, rfl⟩)) _ (mem_uniq.mpr (List.mem_map.mpr ⟨b, hb, rfl⟩)) q
  refine tw_of (R := fun a b => a ∈ rows ∧ b ∈ rows ∧ f a = f b) (fun s t ⟨hs, ht, r⟩ e he => ?_) (fun s t ⟨hs, ht, r⟩ e he => ?_) ⟨hv, hw, q⟩
  · exact ((key_eq.mp (bis s hs t ht r)).2 e he).1
  · exact ⟨hc s hs e he, hc t ht e he, ((key_eq.mp (bis s hs t ht r)).2 e he).2⟩
/-- the numbers that the loop ends with -/
structure Good (evs : List E) (step : S → E → A × S) (rows : List S) (f : S → Nat) : Prop where
  tw : ∀ v ∈ rows, ∀ w ∈ rows, f v = f w ↔ Tw evs step v w
  ord : InOrder rows f
theorem good_of {f : S → Nat} (hc : ∀ s ∈ rows, ∀ e ∈ evs, (step s e).2 ∈ rows) (k : Keeps evs step rows f) (h : cnt rows (regroup evs step rows f) ≤ cnt rows f) : Good evs step rows (regroup evs step rows f) :=
  ⟨fun v hv w hw => ⟨fun q => re_stable hc h hv hw (re_finer hv hw q), keeps_re hc k v hv w hw⟩, num_order rows _⟩
theorem cnt_le {f : S → Nat} : cnt rows f ≤ rows.length := by
  unfold cnt
  exact Nat.le_trans (uniq_len _) (by rw [List.length_map]; exact Nat.le_refl _)
theorem cnt_pos {f : S → Nat} (h : rows ≠ []) : 0 < cnt rows f := by
  cases rows with
  | nil => exact absurd rfl h
  | cons a r => exact List.length_pos_of_mem (a := f a) (mem_uniq.mpr (by simp))
end

/-! ### classes -/
section
variable {S : Type} (T : S → S → Prop)
open Classical in
/-- v joins the first group whose head it fits -/
noncomputable def insG (v : S) : List (List S) → List (List S)
  | [] => [[v]]
  | g :: gs => if T (g.headD v) v then (g ++ [v]) :: gs else g :: insG v gs
noncomputable def cls (rows : List S) : List (List S) := rows.foldl (fun gs v => insG T v gs) []
variable {T}
theorem cls_snoc (l : List S) (v : S) : cls T (l ++ [v]) = insG T v (cls T l) := by unfold cls; rw [List.foldl_append]; rfl
/-- the place where v joins -/
theorem insG_at {v : S} : ∀ {gs : List (List S)} {j : Nat} {g : List S}, gs[j]? = some g → T (g.headD v) v → (∀ i g', i < j → gs[i]? = some g' → ¬ T (g'.headD v) v) → insG T v gs = gs.set j (g ++ [v])
  | g0 :: gs, 0, g, h, t, _ => by
    simp only [List.getElem?_cons_zero, Option.some.injEq] at h
    subst h
    rw [insG, if_pos t, List.set_cons_zero]
  | g0 :: gs, j + 1, g, h, t, n => by
    rw [insG, if_neg (n 0 g0 (Nat.succ_pos j) rfl), List.set_cons_succ, insG_at (gs := gs) (j := j) (by simpa using h) t fun i g' hi e => n (i + 1) g' (by omega) (by simpa using e)]
  | [], _, _, h, _, _ => by simp at h
theorem insG_new {v : S} : ∀ {gs : List (List S)}, (∀ g ∈ gs, ¬ T (g.headD v) v) → insG T v gs = gs ++ [[v]]
  | [], _ => rfl
  | g :: gs, h => by rw [insG, if_neg (h g List.mem_cons_self), insG_new fun x hx => h x (List.mem_cons_of_mem _ hx)]; rfl
/-- each group by its number -/
def Numbered (f : S → Nat) (gs : List (List S)) : Prop := ∀ (j : Nat) (g : List S), gs[j]? = some g → g ≠ [] ∧ ∀ x ∈ g, f x = j
theorem head_mem {g : List S} {v : S} (h : g ≠ []) : g.headD v ∈ g := by
  cases g with
  | nil => exact absurd rfl h
  | cons a r => simp
/-- one value more, by its number -/
theorem cls_step {rows pre post : List S} {v : S} {f : S → Nat} (e : rows = pre ++ v :: post) (tw : ∀ v ∈ rows, ∀ w ∈ rows, f v = f w ↔ T v w) (ord : InOrder rows f)
    (mem : ∀ g ∈ cls T pre, ∀ x ∈ g, x ∈ pre) (all : ∀ x ∈ pre, ∃ g ∈ cls T pre, x ∈ g) (nb : Numbered f (cls T pre)) (len : (cls T pre).length = (uniq (pre.map f)).length) :
    (∃ g, (cls T pre)[f v]? = some g ∧ cls T (pre ++ [v]) = (cls T pre).set (f v) (g ++ [v])) ∨ (f v = (cls T pre).length ∧ cls T (pre ++ [v]) = cls T pre ++ [[v]]) := by
  have hv : v ∈ rows := by rw [e]; simp
  have hp : ∀ x ∈ pre, x ∈ rows := fun x hx => by rw [e]; exact List.mem_append_left _ hx
  have hd : ∀ j g, (cls T pre)[j]? = some g → (T (g.headD v) v ↔ j = f v) := fun j g hg => by
    obtain ⟨n1, n2⟩ := nb j g hg
    have hm := head_mem (v := v) n1
    rw [← tw _ (hp _ (mem g (List.mem_of_getElem? hg) _ hm)) v hv, n2 _ hm]
  rw [cls_snoc]
  rcases ord pre v post e with ⟨w, hw, q⟩ | q
  · left
    obtain ⟨g, hg, hx⟩ := all w hw
    obtain ⟨j, hj, ej⟩ := List.mem_iff_getElem.mp hg
    have hj' : (cls T pre)[j]? = some g := by rw [List.getElem?_eq_getElem hj, ej]
    have jv : j = f v := by rw [← q]; exact ((nb j g hj').2 w hx).symm
    rw [jv] at hj'
    refine ⟨g, hj', insG_at hj' ((hd _ g hj').mpr rfl) fun i g' hi hg' t => ?_⟩
    have := (hd i g' hg').mp t
    omega
  · right
    rw [← len] at q
    refine ⟨q, insG_new fun g hg t => ?_⟩
    obtain ⟨j, hj, ej⟩ := List.mem_iff_getElem.mp hg
    have := (hd j g (by rw [List.getElem?_eq_getElem hj, ej])).mp t
    omega
/-- what the classes of a prefix are -/
structure ClsI (T : S → S → Prop) (f : S → Nat) (pre : List S) : Prop where
  mem : ∀ g ∈ cls T pre, ∀ x ∈ g, x ∈ pre
  all : ∀ x ∈ pre, ∃ g ∈ cls T pre, x ∈ g
  nb : Numbered f (cls T pre)
  len : (cls T pre).length = (uniq (pre.map f)).length
theorem cls_inv {rows : List S} {f : S → Nat} (tw : ∀ v ∈ rows, ∀ w ∈ rows, f v = f w ↔ T v w) (ord : InOrder rows f) : ∀ (n : Nat), n ≤ rows.length → ClsI T f (rows.take n)
  | 0, _ => by
    rw [List.take_zero]
    exact ⟨(fun g hg => by cases hg), (fun x hx => by cases hx), (fun j g hg => by simp [cls] at hg), rfl⟩
  | n + 1, hn => by
    have ih := cls_inv tw ord n (by omega)
    have hlt : n < rows.length := by omega
    have e : rows = rows.take n ++ rows[n] :: rows.drop (n + 1) := by rw [← List.drop_eq_getElem_cons hlt, List.take_append_drop]
    have et : rows.take (n + 1) = rows.take n ++ [rows[n]] := by rw [List.take_add_one, List.getElem?_eq_getElem hlt]; rfl
    generalize hv : rows[n] = v at e et
    have hlen : (uniq (rows.take n |>.map f) ).length = (cls T (rows.take n)).length := ih.len.symm
    rw [et]
    rcases cls_step e tw ord ih.mem ih.all ih.nb ih.len with ⟨g, hg, hs⟩ | ⟨hf, hs⟩
    · obtain ⟨g1, g2⟩ := ih.nb _ g hg
      have hlt2 : f v < (cls T (rows.take n)).length := (List.getElem?_eq_some_iff.mp hg).1
      refine ⟨fun g' hg' x hx => ?_, fun x hx => ?_, fun j g' hg' => ?_, ?_⟩
      · rw [hs] at hg'
        rcases List.mem_or_eq_of_mem_set hg' with q | q
        · exact List.mem_append_left _ (ih.mem g' q x hx)
        · rw [q] at hx
          rcases List.mem_append.mp hx with z | z
          · exact List.mem_append_left _ (ih.mem g (List.mem_of_getElem? hg) x z)
          · exact List.mem_append_right _ z
      · rw [hs]
        rcases List.mem_append.mp hx with z | z
        · obtain ⟨g', hg', hx'⟩ := ih.all x z
          obtain ⟨j, hj, ej⟩ := List.mem_iff_getElem.mp hg'
          by_cases q : j = f v
          · subst q
            have : g' = g := by rw [List.getElem?_eq_getElem hj, ej] at hg; exact Option.some.inj hg
            subst this
            exact ⟨g' ++ [v], List.mem_of_getElem? (i := f v) (by rw [List.getElem?_set_self hlt2]), List.mem_append_left _ hx'⟩
          · exact ⟨g', List.mem_of_getElem? (i := j) (by rw [List.getElem?_set_ne (fun z => q z.symm), List.getElem?_eq_getElem hj, ej]), hx'⟩
        · exact ⟨g ++ [v], List.mem_of_getElem? (i := f v) (by rw [List.getElem?_set_self hlt2]), List.mem_append_right _ z⟩
      · rw [hs] at hg'
        by_cases q : f v = j
        · subst q
          rw [List.getElem?_set_self hlt2] at hg'
          cases hg'
          refine ⟨by simp, fun x hx => ?_⟩
          rcases List.mem_append.mp hx with z | z
          · exact g2 x z
          · rw [List.mem_singleton.mp z]
        · rw [List.getElem?_set_ne q] at hg'
          exact ih.nb j g' hg'
      · rw [hs, List.length_set, ih.len, List.map_append, List.map_singleton, uniq_snoc]
        unfold add
        rw [if_pos]
        have hm := head_mem (v := v) g1
        exact mem_uniq.mpr (List.mem_map.mpr ⟨_, ih.mem g (List.mem_of_getElem? hg) _ hm, g2 _ hm⟩)
    · refine ⟨fun g' hg' x hx => ?_, fun x hx => ?_, fun j g' hg' => ?_, ?_⟩
      · rw [hs] at hg'
        rcases List.mem_append.mp hg' with q | q
        · exact List.mem_append_left _ (ih.mem g' q x hx)
        · rw [List.mem_singleton.mp q] at hx
          exact List.mem_append_right _ hx
      · rw [hs]
        rcases List.mem_append.mp hx with z | z
        · obtain ⟨g', hg', hx'⟩ := ih.all x z
          exact ⟨g', List.mem_append_left _ hg', hx'⟩
        · exact ⟨[v], List.mem_append_right _ (by simp), z⟩
      · rw [hs] at hg'
        rcases Nat.lt_or_ge j (cls T (rows.take n)).length with q | q
        · rw [List.getElem?_append_left q] at hg'
          exact ih.nb j g' hg'
        · rw [List.getElem?_append_right q] at hg'
          have e0 : j - (cls T (rows.take n)).length = 0 := by
            have := (List.getElem?_eq_some_iff.mp hg').1
            simp at this; omega
          rw [e0] at hg'
          cases hg'
          exact ⟨by simp, fun x hx => by rw [List.mem_singleton.mp hx, hf]; omega⟩
      · rw [hs, List.length_append, ih.len, List.map_append, List.map_singleton, uniq_snoc]
        unfold add
        rw [if_neg, List.length_append]; rfl
        intro z
        obtain ⟨w, hw, q⟩ := List.mem_map.mp (mem_uniq.mp z)
        obtain ⟨g', hg', hx'⟩ := ih.all w hw
        obtain ⟨j, hj, ej⟩ := List.mem_iff_getElem.mp hg'
        have := (ih.nb j g' (by rw [List.getElem?_eq_getElem hj, ej])).2 w hx'
        omega
end
end KM

set_option Elab.async false
set_option linter.all false
set_option maxRecDepth 100000
/-! Data of the program as plain Lean values, and how an abstract heap bears them. -/
namespace K3
open PySem L2

inductive D where
  | non | bl (b : Bool) | int (i : Int) | str (x : Str)
  | tup (ds : List D) | lst (ds : List D)
  | chn (rows : D) (folk : Int) (costly : Bool)
  | dct (ks vs : List D)

structure Gs where
  P : Program
  w : World
  K : PySem.W.Frag
  C : Addr

/-- the three attributes of a chain, in the order of its making -/
def cflds (r : V) (f : Int) (c : Bool) : List (Str × V) := putF "costly" (.bl c) (putF "folk" (.int f) (putF "rows" r []))

mutual
def kyb : D → Bool
  | .non | .bl _ | .int _ | .str _ => true
  | .tup ds => kybAll ds
  | .lst _ | .chn _ _ _ | .dct _ _ => false
def kybAll : List D → Bool
  | [] => true
  | d :: ds => kyb d && kybAll ds
end
mutual
def key : D → NestedKey
  | .non => .none
  | .bl b => .num (if b = true then 1 else 0)
  | .int i => .num i
  | .str x => .text x
  | .tup ds => .tup (keyAll ds)
  | .lst _ | .chn _ _ _ | .dct _ _ => .none
def keyAll : List D → List NestedKey
  | [] => []
  | d :: ds => key d :: keyAll ds
end
mutual
def toPy : D → PyData
  | .non => .none
  | .bl b => .bool b
  | .int i => .int i
  | .str x => .str x
  | .tup ds => .tuple (toPyAll ds)
  | .lst ds => .list (toPyAll ds)
  | .chn _ _ _ | .dct _ _ => .none
def toPyAll : List D → List PyData
  | [] => []
  | d :: ds => toPy d :: toPyAll ds
end
-- no chain and no dict within
mutual
def pln : D → Bool
  | .non | .bl _ | .int _ | .str _ => true
  | .tup ds | .lst ds => plnAll ds
  | .chn _ _ _ | .dct _ _ => false
def plnAll : List D → Bool
  | [] => true
  | d :: ds => pln d && plnAll ds
end
-- nothing within that may be changed
mutual
def imm : D → Bool
  | .non | .bl _ | .int _ | .str _ => true
  | .tup ds => immAll ds
  | .chn r _ _ => imm r
  | .lst _ | .dct _ _ => false
def immAll : List D → Bool
  | [] => true
  | d :: ds => imm d && immAll ds
end

/-- the very object at a is known -/
def objO (a : Addr) (o : Obj) : HO := .ext fun h => h.get? a = some o
/-- o is a dict's object: its entries (key, where the key's own tuple stands, value) -/
structure DctOk (P : Program) (w : World) (a : Addr) (o : Obj) (xs : List (NestedKey × Addr × Value)) : Prop where
  low : (a == sysModules) = false
  nd : (xs.map (·.1)).Nodup
  len : xs.length ≤ sizeLine
  ex : o.ExactDict
  ent : ∃ es ep, o.data = .dict es ep ∧ es.toList = xs.map (entryOfKey (nestedKind P w))

mutual
inductive DAt (G : Gs) (H : Hp) : V → D → Prop
  | non : DAt G H .non .non
  | bl (b : Bool) : DAt G H (.bl b) (.bl b)
  | int (i : Int) : DAt G H (.int i) (.int i)
  | str (x : Str) : DAt G H (.str x) (.str x)
  | tup {a : Addr} {vs : List V} {ds : List D} : SqT G.K H a vs → DAll G H vs ds → DAt G H (.ref a) (.tup ds)
  | lst {a : Addr} {vs : List V} {ds : List D} : SqL G.K H a vs → DAll G H vs ds → DAt G H (.ref a) (.lst ds)
  | chn {a dx : Addr} {rv : V} {r : D} {f : Int} {c : Bool} : H a = some (.ins G.C dx (cflds rv f c)) → DAt G H rv r → DAt G H (.ref a) (.chn r f c)
  | dct {a : Addr} {o : Obj} {xs : List (NestedKey × Addr × Value)} {ks vs : List D} : H a = some (objO a o) → DctOk G.P G.w a o xs → DEnt G H ks vs xs → DAt G H (.ref a) (.dct ks vs)
inductive DAll (G : Gs) (H : Hp) : List V → List D → Prop
  | nil : DAll G H [] []
  | cons {v : V} {vs : List V} {d : D} {ds : List D} : DAt G H v d → DAll G H vs ds → DAll G H (v :: vs) (d :: ds)
inductive DEnt (G : Gs) (H : Hp) : List D → List D → List (NestedKey × Addr × Value) → Prop
  | nil : DEnt G H [] [] []
  | cons {b : Addr} {k d : D} {v : V} {u : Value} {ks ds : List D} {xs : List (NestedKey × Addr × Value)} : DAt G H (.ref b) k → kyb k = true → (key k).depth ≤ 8 →
      DAt G H v d → RelV v u → DEnt G H ks ds xs → DEnt G H (k :: ks) (d :: ds) ((key k, b, u) :: xs)
end

/-! ### heaps that grow -/
/-- what never changes: tuples, chains, what is locked -/
def Fx : HO → Prop
  | .tup _ => True
  | .ins _ _ _ => True
  | .frz _ _ => True
  | _ => False
/-- tuples, chains and locked things are kept -/
def Le (H H' : Hp) : Prop := ∀ a o, H a = some o → Fx o → H' a = some o
theorem Le.refl (H : Hp) : Le H H := fun _ _ h _ => h
theorem Le.trans {H H1 H2 : Hp} (a : Le H H1) (b : Le H1 H2) : Le H H2 := fun x o h f => b x o (a x o h f) f
theorem Le.of {H H' : Hp} (e : Same H H') : Le H H' := fun a o h _ => e a o h
theorem Le.wr {H : Hp} {p : Addr} {o : HO} (h : ∀ u, H p = some u → ¬ Fx u) : Le H (upd H p o) := fun a u e f => by
  by_cases ha : a = p
  · subst ha; exact absurd f (h u e)
  · rw [upd_ne ha]; exact e
theorem _root_.L2.Same.new {H : Hp} {p : Addr} {o : HO} (h : H p = none) : Same H (upd H p o) := fun a u e => by
  rw [upd_ne (ne_of_none e h)]; exact e
/-- an object that H does not know may change -/
theorem _root_.L2.Same.mut {H H' : Hp} {p : Addr} {o : HO} (e : Same H H') (h : H p = none) : Same H (upd H' p o) := fun a u ha => by
  rw [upd_ne (ne_of_none ha h)]; exact e a u ha
theorem _root_.L2.Same.rd {H H' : Hp} {a : Addr} {u : HO} (e : Same H H') (h : Rd H a u) : Rd H' a u := by
  rcases h with h | ⟨o, h⟩
  · exact .inl (e a _ h)
  · exact .inr ⟨o, e a _ h⟩
theorem _root_.L2.Same.tp {K : PySem.W.Frag} {H H' : Hp} {a : Addr} {xs : List V} (e : Same H H') (h : SqT K H a xs) : SqT K H' a xs := by
  rcases h with h | h
  · exact .inl (e.rd h)
  · exact .inr h
theorem _root_.L2.Same.ls {K : PySem.W.Frag} {H H' : Hp} {a : Addr} {xs : List V} (e : Same H H') (h : SqL K H a xs) : SqL K H' a xs := by
  rcases h with h | h
  · exact .inl (e.rd h)
  · exact .inr h
theorem Le.tp {K : PySem.W.Frag} {H H' : Hp} {a : Addr} {xs : List V} (e : Le H H') (h : SqT K H a xs) : SqT K H' a xs := by
  rcases h with (h | ⟨o, h⟩) | h
  · exact .inl (.inl (e a _ h trivial))
  · exact .inl (.inr ⟨o, e a _ h trivial⟩)
  · exact .inr h

section
variable {G : Gs} {H H' : Hp}
mutual
theorem DAt.mono (e : Same H H') : ∀ {d : D} {v : V}, DAt G H v d → DAt G H' v d
  | _, _, .non => .non
  | _, _, .bl _ => .bl _
  | _, _, .int _ => .int _
  | _, _, .str _ => .str _
  | _, _, .tup a b => .tup (e.tp a) (DAll.mono e b)
  | _, _, .lst a b => .lst (e.ls a) (DAll.mono e b)
  | _, _, .chn a b => .chn (e _ _ a) (DAt.mono e b)
  | _, _, .dct a b c => .dct (e _ _ a) b (DEnt.mono e c)
theorem DAll.mono (e : Same H H') : ∀ {ds : List D} {vs : List V}, DAll G H vs ds → DAll G H' vs ds
  | _, _, .nil => .nil
  | _, _, .cons a b => .cons (DAt.mono e a) (DAll.mono e b)
theorem DEnt.mono (e : Same H H') : ∀ {ks vs : List D} {xs : List (NestedKey × Addr × Value)}, DEnt G H ks vs xs → DEnt G H' ks vs xs
  | _, _, _, .nil => .nil
  | _, _, _, .cons a b c d r t => .cons (DAt.mono e a) b c (DAt.mono e d) r (DEnt.mono e t)
end
mutual
theorem DAt.le (e : Le H H') {d : D} {v : V} (i : imm d = true) (h : DAt G H v d) : DAt G H' v d := by
  match h with
  | .non => exact .non
  | .bl _ => exact .bl _
  | .int _ => exact .int _
  | .str _ => exact .str _
  | .tup a b => exact .tup (e.tp a) (DAll.le e (by rw [imm] at i; exact i) b)
  | .chn a b => exact .chn (e _ _ a trivial) (DAt.le e (by rw [imm] at i; exact i) b)
  | .lst _ _ => rw [imm] at i; cases i
  | .dct _ _ _ => rw [imm] at i; cases i
theorem DAll.le (e : Le H H') {ds : List D} {vs : List V} (i : immAll ds = true) (h : DAll G H vs ds) : DAll G H' vs ds := by
  match h with
  | .nil => exact .nil
  | .cons a b =>
    rw [immAll] at i
    exact .cons (DAt.le e (Bool.and_eq_true_iff.mp i).1 a) (DAll.le e (Bool.and_eq_true_iff.mp i).2 b)
end
theorem DEnt.le (e : Le H H') {ks vs : List D} {xs : List (NestedKey × Addr × Value)} (i : immAll ks = true) (j : immAll vs = true) (h : DEnt G H ks vs xs) : DEnt G H' ks vs xs := by
  match h with
  | .nil => exact .nil
  | .cons a b c d r t =>
    rw [immAll] at i j
    exact .cons (DAt.le e (Bool.and_eq_true_iff.mp i).1 a) b c (DAt.le e (Bool.and_eq_true_iff.mp j).1 d) r (DEnt.le e (Bool.and_eq_true_iff.mp i).2 (Bool.and_eq_true_iff.mp j).2 t)
theorem DAt.mn {d : D} {v : V} (h : DAt G H v d) (e : Same H H') : DAt G H' v d := DAt.mono e h
theorem DAll.mn {ds : List D} {vs : List V} (h : DAll G H vs ds) (e : Same H H') : DAll G H' vs ds := DAll.mono e h
theorem DAt.lm {d : D} {v : V} (h : DAt G H v d) (i : imm d = true) (e : Le H H') : DAt G H' v d := DAt.le e i h
theorem DAll.lm {ds : List D} {vs : List V} (h : DAll G H vs ds) (i : immAll ds = true) (e : Le H H') : DAll G H' vs ds := DAll.le e i h
theorem DAll.length : ∀ {vs : List V} {ds : List D}, DAll G H vs ds → vs.length = ds.length
  | _, [], h => by cases h; rfl
  | _, _ :: ds, h => by cases h with | cons _ t => simp [DAll.length t]
theorem DAll.get : ∀ {vs : List V} {ds : List D} {i : Nat} {d : D}, DAll G H vs ds → ds[i]? = some d → ∃ v, vs[i]? = some v ∧ DAt G H v d
  | _, [], _, _, _, e => by simp at e
  | _, _ :: _, 0, _, h, e => by
    cases h with
    | cons a b =>
      simp at e; subst e
      exact ⟨_, rfl, a⟩
  | _, _ :: ds, i + 1, d, h, e => by
    cases h with
    | cons a b =>
      obtain ⟨v, h1, h2⟩ := DAll.get (i := i) (d := d) b (by simpa using e)
      exact ⟨v, by simpa using h1, h2⟩
theorem DAll.getV : ∀ {vs : List V} {ds : List D} {i : Nat} {v : V}, DAll G H vs ds → vs[i]? = some v → ∃ d, ds[i]? = some d ∧ DAt G H v d
  | [], _, _, _, _, e => by simp at e
  | _ :: _, [], _, _, h, _ => by cases h
  | _ :: _, _ :: _, 0, _, h, e => by
    cases h with
    | cons a b =>
      simp at e; subst e
      exact ⟨_, rfl, a⟩
  | _ :: _, _ :: ds, i + 1, v, h, e => by
    cases h with
    | cons a b =>
      obtain ⟨d, h1, h2⟩ := DAll.getV (i := i) (v := v) b (by simpa using e)
      exact ⟨d, by simpa using h1, h2⟩
theorem DAll.append : ∀ {vs us : List V} {ds es : List D}, DAll G H vs ds → DAll G H us es → DAll G H (vs ++ us) (ds ++ es)
  | _, _, [], _, h, k => by cases h; exact k
  | _, _, _ :: _, _, h, k => by cases h with | cons a b => exact .cons a (DAll.append b k)
theorem DAll.snoc {vs : List V} {ds : List D} {v : V} {d : D} (h : DAll G H vs ds) (k : DAt G H v d) : DAll G H (vs ++ [v]) (ds ++ [d]) := h.append (.cons k .nil)
theorem DAll.take : ∀ (n : Nat) {vs : List V} {ds : List D}, DAll G H vs ds → DAll G H (vs.take n) (ds.take n)
  | 0, _, _, _ => .nil
  | _ + 1, _, [], h => by cases h; exact .nil
  | n + 1, _, _ :: _, h => by cases h with | cons a b => exact .cons a (DAll.take n b)
theorem DAll.drop : ∀ (n : Nat) {vs : List V} {ds : List D}, DAll G H vs ds → DAll G H (vs.drop n) (ds.drop n)
  | 0, _, _, h => h
  | _ + 1, _, [], h => by cases h; exact .nil
  | n + 1, _, _ :: _, h => by cases h with | cons a b => exact DAll.drop n b
theorem DAll.set {v : V} {d : D} (k : DAt G H v d) : ∀ (n : Nat) {vs : List V} {ds : List D}, DAll G H vs ds → DAll G H (vs.set n v) (ds.set n d)
  | _, _, [], h => by cases h; exact .nil
  | 0, _, _ :: _, h => by cases h with | cons a b => exact .cons k b
  | n + 1, _, _ :: _, h => by cases h with | cons a b => exact .cons a (DAll.set k n b)
theorem DAll.reverse : ∀ {vs : List V} {ds : List D}, DAll G H vs ds → DAll G H vs.reverse ds.reverse
  | _, [], h => by cases h; exact .nil
  | _, _ :: _, h => by
    cases h with
    | cons a b =>
      rw [List.reverse_cons, List.reverse_cons]
      exact (DAll.reverse b).snoc a
theorem immAll_append {a b : List D} : immAll (a ++ b) = (immAll a && immAll b) := by
  induction a with
  | nil => simp [immAll]
  | cons x xs ih => simp [immAll, ih, Bool.and_assoc]
end
end K3

set_option Elab.async false
set_option linter.all false
set_option maxRecDepth 100000
/-! Data compared, data as keys. -/
namespace K3
open PySem L2

-- data without bools, at most so deep; lists within allowed (eqd), or none (kyd)
mutual
def eqd : Nat → D → Bool
  | _, .non => true
  | _, .int _ => true
  | _, .str x => PyData.strOk x
  | 0, .tup _ => false
  | 0, .lst _ => false
  | n + 1, .tup ds => eqdAll n ds
  | n + 1, .lst ds => eqdAll n ds
  | _, .bl _ => false
  | _, .chn _ _ _ => false
  | _, .dct _ _ => false
def eqdAll : Nat → List D → Bool
  | _, [] => true
  | n, d :: ds => eqd n d && eqdAll n ds
end
mutual
def kyd : Nat → D → Bool
  | _, .non => true
  | _, .int _ => true
  | _, .str x => PyData.strOk x
  | 0, .tup _ => false
  | n + 1, .tup ds => kydAll n ds
  | _, .lst _ => false
  | _, .bl _ => false
  | _, .chn _ _ _ => false
  | _, .dct _ _ => false
def kydAll : Nat → List D → Bool
  | _, [] => true
  | n, d :: ds => kyd n d && kydAll n ds
end
theorem eqdAll_iff {n : Nat} : ∀ {ds : List D}, eqdAll n ds = true ↔ ∀ d ∈ ds, eqd n d = true
  | [] => by simp [eqdAll]
  | d :: ds => by rw [eqdAll, Bool.and_eq_true, eqdAll_iff (ds := ds)]; simp
theorem kydAll_iff {n : Nat} : ∀ {ds : List D}, kydAll n ds = true ↔ ∀ d ∈ ds, kyd n d = true
  | [] => by simp [kydAll]
  | d :: ds => by rw [kydAll, Bool.and_eq_true, kydAll_iff (ds := ds)]; simp
theorem immAll_iff : ∀ {ds : List D}, immAll ds = true ↔ ∀ d ∈ ds, imm d = true
  | [] => by simp [immAll]
  | d :: ds => by rw [immAll, Bool.and_eq_true, immAll_iff (ds := ds)]; simp
mutual
theorem kyd_eqd : ∀ (d : D) (n : Nat), kyd n d = true → eqd n d = true
  | .non, n, _ => by cases n <;> rfl
  | .int _, n, _ => by cases n <;> rfl
  | .str x, n, h => by cases n <;> exact h
  | .tup ds, 0, h => by cases h
  | .tup ds, n + 1, h => by rw [eqd]; rw [kyd] at h; exact kydAll_eqd ds n h
  | .lst _, n, h => by cases n <;> cases h
  | .bl _, n, h => by cases n <;> cases h
  | .chn _ _ _, n, h => by cases n <;> cases h
  | .dct _ _, n, h => by cases n <;> cases h
theorem kydAll_eqd : ∀ (ds : List D) (n : Nat), kydAll n ds = true → eqdAll n ds = true
  | [], n, _ => by cases n <;> rfl
  | d :: ds, n, h => by
    rw [kydAll, Bool.and_eq_true] at h
    rw [eqdAll, Bool.and_eq_true]
    exact ⟨kyd_eqd d n h.1, kydAll_eqd ds n h.2⟩
end
mutual
theorem kyd_facts : ∀ (d : D) (n : Nat), kyd n d = true → imm d = true ∧ kyb d = true ∧ (key d).depth ≤ n
  | .non, n, _ => ⟨rfl, rfl, Nat.zero_le _⟩
  | .int _, n, _ => ⟨rfl, rfl, Nat.zero_le _⟩
  | .str x, n, h => ⟨rfl, rfl, Nat.zero_le _⟩
  | .tup ds, 0, h => by cases h
  | .tup ds, n + 1, h => by
    rw [kyd] at h
    obtain ⟨h1, h2, h3⟩ := kydAll_facts ds n h
    exact ⟨by rw [imm]; exact h1, by rw [kyb]; exact h2, by rw [key, NestedKey.depth]; omega⟩
  | .lst _, n, h => by cases n <;> cases h
  | .bl _, n, h => by cases n <;> cases h
  | .chn _ _ _, n, h => by cases n <;> cases h
  | .dct _ _, n, h => by cases n <;> cases h
theorem kydAll_facts : ∀ (ds : List D) (n : Nat), kydAll n ds = true → immAll ds = true ∧ kybAll ds = true ∧ NestedKey.depthAll (keyAll ds) ≤ n
  | [], n, _ => ⟨rfl, rfl, by rw [keyAll, NestedKey.depthAll]; exact Nat.zero_le _⟩
  | d :: ds, n, h => by
    rw [kydAll, Bool.and_eq_true] at h
    obtain ⟨h1, h2, h3⟩ := kyd_facts d n h.1
    obtain ⟨k1, k2, k3⟩ := kydAll_facts ds n h.2
    exact ⟨by rw [immAll, h1, k1]; rfl, by rw [kybAll, h2, k2]; rfl, by rw [keyAll, NestedKey.depthAll]; omega⟩
end
mutual
theorem key_inj : ∀ (a b : D) (n m : Nat), kyd n a = true → kyd m b = true → key a = key b → a = b
  | .non, b, n, m, _, hb, e => by cases b <;> first | rfl | (simp [key] at e; done) | (cases m <;> cases hb; done)
  | .int i, b, n, m, _, hb, e => by
    cases b <;> first | (simp [key] at e; done) | (cases m <;> cases hb; done) | (simp only [key, NestedKey.num.injEq] at e; rw [e])
  | .str i, b, n, m, _, hb, e => by
    cases b <;> first | (simp [key] at e; done) | (simp only [key, NestedKey.text.injEq] at e; rw [e])
  | .tup ds, b, n, m, ha, hb, e => by
    cases b with
    | tup es =>
      cases n with
      | zero => cases ha
      | succ n =>
        cases m with
        | zero => cases hb
        | succ m =>
          rw [kyd] at ha hb
          simp only [key, NestedKey.tup.injEq] at e
          rw [keyAll_inj ds es n m ha hb e]
    | non => simp [key] at e
    | bl _ => simp [key] at e
    | int _ => simp [key] at e
    | str _ => simp [key] at e
    | lst _ => simp [key] at e
    | chn _ _ _ => simp [key] at e
    | dct _ _ => simp [key] at e
  | .lst _, _, n, _, h, _, _ => by cases n <;> cases h
  | .bl _, _, n, _, h, _, _ => by cases n <;> cases h
  | .chn _ _ _, _, n, _, h, _, _ => by cases n <;> cases h
  | .dct _ _, _, n, _, h, _, _ => by cases n <;> cases h
theorem keyAll_inj : ∀ (a b : List D) (n m : Nat), kydAll n a = true → kydAll m b = true → keyAll a = keyAll b → a = b
  | [], [], _, _, _, _, _ => rfl
  | [], _ :: _, _, _, _, _, e => by simp [keyAll] at e
  | _ :: _, [], _, _, _, _, e => by simp [keyAll] at e
  | a :: as, b :: bs, n, m, ha, hb, e => by
    rw [kydAll, Bool.and_eq_true] at ha hb
    simp only [keyAll, List.cons.injEq] at e
    rw [key_inj a b n m ha.1 hb.1 e.1, keyAll_inj as bs n m ha.2 hb.2 e.2]
end
mutual
theorem eqd_lay : ∀ (d : D) (n : Nat), eqd n d = true → (toPy d).canLay0 = true ∧ (toPy d).depth ≤ n
  | .non, n, _ => ⟨rfl, Nat.zero_le _⟩
  | .int _, n, _ => ⟨rfl, Nat.zero_le _⟩
  | .str x, n, h => ⟨by rw [toPy, PyData.canLay0]; cases n <;> exact h, Nat.zero_le _⟩
  | .tup ds, 0, h => by cases h
  | .lst ds, 0, h => by cases h
  | .tup ds, n + 1, h => by
    rw [eqd] at h
    obtain ⟨h1, h2⟩ := eqdAll_lay ds n h
    exact ⟨by rw [toPy, PyData.canLay0]; exact h1, by rw [toPy, PyData.depth]; omega⟩
  | .lst ds, n + 1, h => by
    rw [eqd] at h
    obtain ⟨h1, h2⟩ := eqdAll_lay ds n h
    exact ⟨by rw [toPy, PyData.canLay0]; exact h1, by rw [toPy, PyData.depth]; omega⟩
  | .bl _, n, h => by cases n <;> cases h
  | .chn _ _ _, n, h => by cases n <;> cases h
  | .dct _ _, n, h => by cases n <;> cases h
theorem eqdAll_lay : ∀ (ds : List D) (n : Nat), eqdAll n ds = true → PyData.canLayAll0 (toPyAll ds) = true ∧ PyData.depthAll (toPyAll ds) ≤ n
  | [], n, _ => ⟨by rw [toPyAll, PyData.canLayAll0], by rw [toPyAll, PyData.depthAll]; exact Nat.zero_le _⟩
  | d :: ds, n, h => by
    rw [eqdAll, Bool.and_eq_true] at h
    obtain ⟨h1, h2⟩ := eqd_lay d n h.1
    obtain ⟨k1, k2⟩ := eqdAll_lay ds n h.2
    exact ⟨by rw [toPyAll, PyData.canLayAll0, h1, k1]; rfl, by rw [toPyAll, PyData.depthAll]; omega⟩
end
theorem eqd_shaped {d : D} {n : Nat} (h : eqd n d = true) (hn : n ≤ 64) : SeqAt.shaped (toPy d) = true := by
  obtain ⟨h1, h2⟩ := eqd_lay d n h
  unfold SeqAt.shaped
  rw [h1]
  exact decide_eq_true (Nat.le_trans h2 hn)
mutual
theorem eqd_eqv : ∀ (a b : D) (n m : Nat), eqd n a = true → eqd m b = true → (PyData.eqv (toPy a) (toPy b) = true ↔ a = b)
  | .non, b, n, m, _, hb => by
    cases b <;> first | (cases m <;> cases hb; done) | simp [toPy, PyData.eqv]
  | .int i, b, n, m, _, hb => by
    cases b <;> first | (cases m <;> cases hb; done) | simp [toPy, PyData.eqv]
  | .str x, b, n, m, _, hb => by
    cases b <;> first | (cases m <;> cases hb; done) | simp [toPy, PyData.eqv]
  | .tup ds, b, n, m, ha, hb => by
    cases n with
    | zero => cases ha
    | succ n =>
      rw [eqd] at ha
      cases b with
      | tup es =>
        cases m with
        | zero => cases hb
        | succ m =>
          rw [eqd] at hb
          have := eqdAll_eqv ds es n m ha hb
          simpa [toPy, PyData.eqv] using this
      | bl _ => cases m <;> cases hb
      | chn _ _ _ => cases m <;> cases hb
      | dct _ _ => cases m <;> cases hb
      | non => simp [toPy, PyData.eqv]
      | int _ => simp [toPy, PyData.eqv]
      | str _ => simp [toPy, PyData.eqv]
      | lst _ => simp [toPy, PyData.eqv]
  | .lst ds, b, n, m, ha, hb => by
    cases n with
    | zero => cases ha
    | succ n =>
      rw [eqd] at ha
      cases b with
      | lst es =>
        cases m with
        | zero => cases hb
        | succ m =>
          rw [eqd] at hb
          have := eqdAll_eqv ds es n m ha hb
          simpa [toPy, PyData.eqv] using this
      | bl _ => cases m <;> cases hb
      | chn _ _ _ => cases m <;> cases hb
      | dct _ _ => cases m <;> cases hb
      | non => simp [toPy, PyData.eqv]
      | int _ => simp [toPy, PyData.eqv]
      | str _ => simp [toPy, PyData.eqv]
      | tup _ => simp [toPy, PyData.eqv]
  | .bl _, _, n, _, h, _ => by cases n <;> cases h
  | .chn _ _ _, _, n, _, h, _ => by cases n <;> cases h
  | .dct _ _, _, n, _, h, _ => by cases n <;> cases h
theorem eqdAll_eqv : ∀ (a b : List D) (n m : Nat), eqdAll n a = true → eqdAll m b = true → (PyData.eqvAll (toPyAll a) (toPyAll b) = true ↔ a = b)
  | [], [], _, _, _, _ => by simp [toPyAll, PyData.eqvAll]
  | [], _ :: _, _, _, _, _ => by simp [toPyAll, PyData.eqvAll]
  | _ :: _, [], _, _, _, _ => by simp [toPyAll, PyData.eqvAll]
  | a :: as, b :: bs, n, m, ha, hb => by
    rw [eqdAll, Bool.and_eq_true] at ha hb
    rw [toPyAll, toPyAll, PyData.eqvAll, Bool.and_eq_true, eqd_eqv a b n m ha.1 hb.1, eqdAll_eqv as bs n m ha.2 hb.2, List.cons.injEq]
end

section
variable {G : Gs} {H : Hp}
mutual
theorem DAt.dp {d : D} {v : V} (i : pln d = true) (h : DAt G H v d) : Dp G.K H v (toPy d) := by
  match h with
  | .non => exact .non
  | .bl _ => exact .bl _
  | .int _ => exact .int _
  | .str _ => exact .str _
  | .tup a b => exact .tup a (DAll.dp (by rw [pln] at i; exact i) b)
  | .lst a b => exact .lst a (DAll.dp (by rw [pln] at i; exact i) b)
  | .chn a b => rw [pln] at i; cases i
  | .dct _ _ _ => rw [pln] at i; cases i
theorem DAll.dp {ds : List D} {vs : List V} (i : plnAll ds = true) (h : DAll G H vs ds) : DpAll G.K H vs (toPyAll ds) := by
  match h with
  | .nil => exact .nil
  | .cons a b =>
    rw [plnAll] at i
    exact .cons (DAt.dp (Bool.and_eq_true_iff.mp i).1 a) (DAll.dp (Bool.and_eq_true_iff.mp i).2 b)
end
mutual
theorem eqd_pln : ∀ (d : D) (n : Nat), eqd n d = true → pln d = true
  | .non, n, _ => rfl
  | .int _, n, _ => rfl
  | .str x, n, h => rfl
  | .tup ds, 0, h => by cases h
  | .lst ds, 0, h => by cases h
  | .tup ds, n + 1, h => by rw [eqd] at h; rw [pln]; exact eqdAll_pln ds n h
  | .lst ds, n + 1, h => by rw [eqd] at h; rw [pln]; exact eqdAll_pln ds n h
  | .bl _, n, h => by cases n <;> cases h
  | .chn _ _ _, n, h => by cases n <;> cases h
  | .dct _ _, n, h => by cases n <;> cases h
theorem eqdAll_pln : ∀ (ds : List D) (n : Nat), eqdAll n ds = true → plnAll ds = true
  | [], n, _ => rfl
  | d :: ds, n, h => by
    rw [eqdAll, Bool.and_eq_true] at h
    rw [plnAll, eqd_pln d n h.1, eqdAll_pln ds n h.2]; rfl
end
end

section
variable {X : Cx} {pins : List (Addr × Obj)} {σ : L2.St} {H : Hp} {s : Shared} {C : Addr}
/-- the data of a context: its program, world and written part; C: the class of chains -/
abbrev gs (X : Cx) (C : Addr) : Gs := ⟨X.prog, X.w, X.K, C⟩
mutual
/-- data as a key, over the heap itself -/
theorem DAt.nest (I : Inv X pins σ H s) {d : D} {v : V} {u : Value} (i : kyb d = true) (h : DAt (gs X C) H v d) (r : RelV v u) : NestedIs s.heap (key d) u := by
  match h with
  | .non => cases r; exact .none
  | .bl b => cases r; exact .bool rfl
  | .int j => obtain ⟨t, rfl⟩ := r; exact .int _ _
  | .str x => obtain ⟨t, rfl⟩ := r; exact .text _ _
  | .tup a b =>
    cases r
    obtain ⟨its, rv, ⟨o, ho, hc, n, hd⟩, _⟩ := I.tuple a
    exact .tup ho hc hd (by simpa using DAll.nest I (by rw [kyb] at i; exact i) b rv)
  | .lst _ _ => rw [kyb] at i; cases i
  | .chn _ _ => rw [kyb] at i; cases i
  | .dct _ _ _ => rw [kyb] at i; cases i
theorem DAll.nest (I : Inv X pins σ H s) {ds : List D} {vs : List V} {us : List Value} (i : kybAll ds = true) (h : DAll (gs X C) H vs ds) (r : Vals vs us) : NestedAll s.heap (keyAll ds) us := by
  match h with
  | .nil => cases r; exact .nil
  | .cons a b =>
    rw [kybAll] at i
    cases r with
    | cons r1 r2 => exact .cons (DAt.nest I (Bool.and_eq_true_iff.mp i).1 a r1) (DAll.nest I (Bool.and_eq_true_iff.mp i).2 b r2)
end
end
end K3

set_option Elab.async false
set_option linter.all false
set_option maxRecDepth 100000
/-! Dicts whose keys are tuples, by data. -/
namespace K3
open PySem L2

/-! ### pairs of lists as a dict -/
def kix (ks : List D) (k : NestedKey) : Option Nat := ks.findIdx? fun d => decide (key d = k)
def dget (ks vs : List D) (k : D) : Option D := (kix ks (key k)).bind (vs[·]?)
def dput (ks vs : List D) (k v : D) : List D × List D := match kix ks (key k) with
  | some i => (ks, vs.set i v)
  | none => (ks ++ [k], vs ++ [v])
theorem kix_nil (k : NestedKey) : kix [] k = none := rfl
theorem kix_hit {d : D} {ks : List D} {k : NestedKey} (h : key d = k) : kix (d :: ks) k = some 0 := by
  unfold kix; rw [List.findIdx?_cons, if_pos (decide_eq_true h)]
theorem kix_miss {d : D} {ks : List D} {k : NestedKey} (h : key d ≠ k) : kix (d :: ks) k = (kix ks k).map (· + 1) := by
  unfold kix; rw [List.findIdx?_cons, if_neg (by simpa using h)]

section
variable {G : Gs} {H : Hp}
theorem DEnt.len : ∀ {ks vs : List D} {xs : List (NestedKey × Addr × Value)}, DEnt G H ks vs xs → ks.length = xs.length ∧ vs.length = xs.length
  | _, _, _, .nil => ⟨rfl, rfl⟩
  | _, _, _, .cons _ _ _ _ _ t => by obtain ⟨a, b⟩ := t.len; simp [a, b]
theorem DEnt.keys : ∀ {ks vs : List D} {xs : List (NestedKey × Addr × Value)}, DEnt G H ks vs xs → xs.map (·.1) = ks.map key
  | _, _, _, .nil => rfl
  | _, _, _, .cons _ _ _ _ _ t => by rw [List.map_cons, List.map_cons, t.keys]
theorem DEnt.none : ∀ {ks vs : List D} {xs : List (NestedKey × Addr × Value)} {k : NestedKey}, DEnt G H ks vs xs → kix ks k = none → atKey xs k = none
  | _, _, _, _, .nil, _ => rfl
  | _, _, _, kk, .cons (k := k) _ _ _ _ _ t, h => by
    by_cases e : key k = kk
    · rw [kix_hit e] at h; cases h
    · rw [kix_miss e] at h
      have := t.none (Option.map_eq_none_iff.mp h)
      simpa [atKey, List.find?_cons, e] using this
theorem DEnt.some : ∀ {ks vs : List D} {xs : List (NestedKey × Addr × Value)} {k : NestedKey} {i : Nat}, DEnt G H ks vs xs → kix ks k = some i →
    ∃ b u d v, atKey xs k = some (b, u) ∧ vs[i]? = some d ∧ DAt G H v d ∧ RelV v u
  | _, _, _, _, _, .nil, h => by cases h
  | _, _, _, kk, i, .cons (k := k) (d := d) (v := v) (b := b) (u := u) a1 a2 a3 a4 a5 t, h => by
    by_cases e : key k = kk
    · rw [kix_hit e] at h; cases h
      exact ⟨b, u, d, v, by simp [atKey, List.find?_cons, e], rfl, a4, a5⟩
    · rw [kix_miss e] at h
      obtain ⟨j, hj, rfl⟩ := Option.map_eq_some_iff.mp h
      obtain ⟨b', u', d', v', h1, h2, h3, h4⟩ := t.some hj
      exact ⟨b', u', d', v', by simpa [atKey, List.find?_cons, e] using h1, by simpa using h2, h3, h4⟩
theorem DEnt.set : ∀ {ks vs : List D} {xs : List (NestedKey × Addr × Value)} {k : NestedKey} {i : Nat} {d : D} {v : V} {u : Value}, DEnt G H ks vs xs → kix ks k = Option.some i → (xs.map (·.1)).Nodup → DAt G H v d → RelV v u →
    DEnt G H ks (vs.set i d) (xs.map (putAt k u))
  | _, _, _, _, _, _, _, _, .nil, h, _, _, _ => by cases h
  | _, _, _, kk, i, d', v', u', .cons (k := k) (b := b) (u := u) (xs := xs) a1 a2 a3 a4 a5 t, h, hn, hd, hr => by
    rw [List.map_cons, List.nodup_cons] at hn
    by_cases e : key k = kk
    · rw [kix_hit e] at h; cases h
      subst e
      rw [List.map_cons, map_putAt_of_not_mem xs _ u' hn.1]
      have e2 : putAt (key k) u' (key k, b, u) = (key k, b, u') := by unfold putAt; rw [if_pos rfl]
      rw [e2]
      exact .cons a1 a2 a3 hd hr t
    · rw [kix_miss e] at h
      obtain ⟨j, hj, rfl⟩ := Option.map_eq_some_iff.mp h
      rw [List.map_cons]
      have e2 : ∀ y, putAt kk u' (key k, y) = (key k, y) := fun y => by unfold putAt; rw [if_neg e]
      rw [e2]
      exact .cons a1 a2 a3 a4 a5 (t.set hj hn.2 hd hr)
theorem DEnt.append : ∀ {ks vs ks' vs' : List D} {xs ys : List (NestedKey × Addr × Value)}, DEnt G H ks vs xs → DEnt G H ks' vs' ys → DEnt G H (ks ++ ks') (vs ++ vs') (xs ++ ys)
  | _, _, _, _, _, _, .nil, t' => t'
  | _, _, _, _, _, _, .cons a1 a2 a3 a4 a5 t, t' => .cons a1 a2 a3 a4 a5 (t.append t')
theorem DEnt.put {ks vs : List D} {xs : List (NestedKey × Addr × Value)} {k d : D} {b : Addr} {v : V} {u : Value} (t : DEnt G H ks vs xs) (hk : DAt G H (.ref b) k) (k1 : kyb k = true) (k2 : (key k).depth ≤ 8) (hn : (xs.map (·.1)).Nodup) (hd : DAt G H v d) (hr : RelV v u) :
    DEnt G H (dput ks vs k d).1 (dput ks vs k d).2 (storedH xs (key k) b u) := by
  unfold dput
  cases e : kix ks (key k) with
  | none =>
    rw [storedH_new (t.none e)]
    exact t.append (.cons hk k1 k2 hd hr .nil)
  | some i =>
    obtain ⟨b', u', _, _, h1, _⟩ := t.some e
    rw [storedH_old h1]
    exact t.set e hn hd hr
/-- the entry at a place -/
theorem DEnt.get : ∀ {ks vs : List D} {xs : List (NestedKey × Addr × Value)} {i : Nat}, DEnt G H ks vs xs → i < xs.length → ∃ b k d v u, xs[i]? = Option.some (key k, b, u) ∧ ks[i]? = Option.some k ∧ vs[i]? = Option.some d ∧ DAt G H (.ref b) k ∧ DAt G H v d ∧ RelV v u
  | _, _, _, _, .nil, h => by cases h
  | _, _, _, 0, .cons a1 a2 a3 a4 a5 t, _ => ⟨_, _, _, _, _, rfl, rfl, rfl, a1, a4, a5⟩
  | _, _, _, i + 1, .cons a1 a2 a3 a4 a5 t, h => by
    obtain ⟨b, k, d, v, u, h1, h2, h3, h4⟩ := t.get (i := i) (by simpa using h)
    exact ⟨b, k, d, v, u, by simpa using h1, by simpa using h2, by simpa using h3, h4⟩
theorem DEnt.without : ∀ {ks vs : List D} {xs : List (NestedKey × Addr × Value)} {k : NestedKey} {i : Nat}, DEnt G H ks vs xs → kix ks k = Option.some i → (xs.map (·.1)).Nodup →
    DEnt G H (ks.eraseIdx i) (vs.eraseIdx i) (withoutH xs k)
  | _, _, _, _, _, .nil, h, _ => by cases h
  | _, _, _, kk, i, .cons (k := k) (b := b) (u := u) (xs := xs) a1 a2 a3 a4 a5 t, h, hn => by
    rw [List.map_cons, List.nodup_cons] at hn
    by_cases e : key k = kk
    · rw [kix_hit e] at h; cases h
      subst e
      have e2 : withoutH ((key k, b, u) :: xs) (key k) = xs := by
        unfold withoutH
        rw [List.filter_cons, if_neg (by simp)]
        exact withoutH_of_not_mem xs _ hn.1
      rw [e2]
      exact t
    · rw [kix_miss e] at h
      obtain ⟨j, hj, rfl⟩ := Option.map_eq_some_iff.mp h
      have e2 : ∀ y, withoutH ((key k, y) :: xs) kk = (key k, y) :: withoutH xs kk := fun y => by
        unfold withoutH
        rw [List.filter_cons, if_pos (by simpa using e)]
      rw [e2]
      exact .cons a1 a2 a3 a4 a5 (t.without hj hn.2)
end

/-! ### over the heap itself -/
section
variable {X : Cx} {pins : List (Addr × Obj)} {σ : L2.St} {H : Hp} {s : Shared} {C a : Addr} {o : Obj} {xs : List (NestedKey × Addr × Value)} {ks vs : List D}
theorem DEnt.isKey (I : Inv X pins σ H s) : ∀ {ks vs : List D} {xs : List (NestedKey × Addr × Value)}, DEnt (gs X C) H ks vs xs → ∀ x ∈ xs, (nestedKind X.prog X.w).is s.heap x.1 x.2.1
  | _, _, _, .nil, x, hx => by cases hx
  | _, _, _, .cons a1 a2 a3 a4 a5 t, x, hx => by
    rcases List.mem_cons.mp hx with e | hx
    · rw [e]; exact ⟨DAt.nest I a2 a1 rfl, a3⟩
    · exact DEnt.isKey I t x hx
theorem objO_at (I : Inv X pins σ H s) (h : H a = some (objO a o)) : s.heap.get? a = some o := (I.hok a _ h).1
theorem dofH (I : Inv X pins σ H s) (h : H a = some (objO a o)) (k : DctOk X.prog X.w a o xs) (t : DEnt (gs X C) H ks vs xs) : s.heap.DictOfH (nestedKind X.prog X.w) a xs := by
  obtain ⟨es, ep, h1, h2⟩ := k.ent
  exact ⟨o, es, ep, objO_at I h, k.ex, h1, h2, DEnt.isKey I t, k.nd⟩
theorem draw (I : Inv X pins σ H s) (h : H a = some (objO a o)) (k : DctOk X.prog X.w a o xs) : ∃ es ep, s.heap.DictRaw a es ep ∧ o.data = .dict es ep ∧ es.toList = xs.map (entryOfKey (nestedKind X.prog X.w)) ∧ es.size = xs.length := by
  obtain ⟨es, ep, h1, h2⟩ := k.ent
  exact ⟨es, ep, ⟨o, objO_at I h, k.ex, h1⟩, h1, h2, by rw [← Array.length_toList, h2, List.length_map]⟩
/-- a new object for the dict -/
theorem dct_new {h' : Heap} {ys : List (NestedKey × Addr × Value)} (low : (a == sysModules) = false) (z : ys.length ≤ sizeLine) (d : h'.DictOfH (nestedKind X.prog X.w) a ys) : ∃ o', h'.get? a = some o' ∧ DctOk X.prog X.w a o' ys := by
  obtain ⟨o', es, ep, h1, h2, h3, h4, _, h6⟩ := d
  exact ⟨o', h1, low, h6, z, h2, es, ep, h3, h4⟩
theorem objOk {P : Program} {w : World} {H' : Hp} {h' : Heap} {o' : Obj} (e : h'.get? a = some o') : ObjOk P w H' h' a (objO a o') :=
  ⟨e, ⟨o', e⟩, fun _ _ p k => k _ p⟩
theorem dct_write {h' : Heap} {t' : Nat} {o' : Obj} (I : Inv X pins σ H s) (h : H a = some (objO a o)) (hs : Heap.SameBut a s.heap h') (e : h'.get? a = some o') : Inv X pins σ (upd H a (objO a o')) { s with heap := h', toks := t' } :=
  d_write I (by rw [h]; exact trivial) hs ⟨o', e⟩ (objOk e)
theorem Le.dct (h : H a = some (objO a o)) {u : HO} : Le H (upd H a u) := .wr fun v e f => by rw [h] at e; cases e; exact f
theorem Same.dct {H0 : Hp} (e : Same H0 H) (n : H0 a = none) {u : HO} : Same H0 (upd H a u) := e.mut n
end
end K3

set_option Elab.async false
set_option linter.all false
set_option maxRecDepth 100000
/-! Dicts whose keys are tuples: the rules of the layer. -/
namespace K3
open PySem PySem.Spec PyProof.Rows L2

/-- x is a key (a tuple of data) -/
def IsK (G : Gs) (H : Hp) (x : V) (k : D) : Prop := DAt G H x k ∧ kyb k = true ∧ (key k).depth ≤ 8 ∧ ∃ b, x = .ref b
/-- at a: the dict -/
def DDc (G : Gs) (H : Hp) (a : Addr) (o : Obj) (xs : List (NestedKey × Addr × Value)) (ks vs : List D) : Prop := H a = some (objO a o) ∧ DctOk G.P G.w a o xs ∧ DEnt G H ks vs xs
theorem DDc.at {G : Gs} {H : Hp} {a : Addr} {o : Obj} {xs : List (NestedKey × Addr × Value)} {ks vs : List D} (h : DDc G H a o xs ks vs) : DAt G H (.ref a) (.dct ks vs) := .dct h.1 h.2.1 h.2.2
/-- .. whatever its object is -/
def DD (G : Gs) (H : Hp) (a : Addr) (ks vs : List D) : Prop := ∃ o xs, DDc G H a o xs ks vs
theorem DD.at {G : Gs} {H : Hp} {a : Addr} {ks vs : List D} (h : DD G H a ks vs) : DAt G H (.ref a) (.dct ks vs) := let ⟨_, _, k⟩ := h; k.at
theorem DAt.dd {G : Gs} {H : Hp} {a : Addr} {ks vs : List D} (h : DAt G H (.ref a) (.dct ks vs)) : DD G H a ks vs := by
  cases h with
  | dct h1 h2 h3 => exact ⟨_, _, h1, h2, h3⟩
theorem DD.mn {G : Gs} {H H' : Hp} {a : Addr} {ks vs : List D} (h : DD G H a ks vs) (e : Same H H') : DD G H' a ks vs := (h.at.mn e).dd
/-- the dict is kept, its data too -/
theorem DDc.keep {G : Gs} {H H' : Hp} {a : Addr} {o : Obj} {xs : List (NestedKey × Addr × Value)} {ks vs : List D} (h : DDc G H a o xs ks vs) (e : Le H H') (e2 : H' a = some (objO a o)) (i : immAll ks = true) (j : immAll vs = true) : DDc G H' a o xs ks vs :=
  ⟨e2, h.2.1, h.2.2.le e i j⟩

section
variable {X : Cx} {C : Addr}
theorem nroom {A : Around} (h : A.units + 64 < cLine) : A.units + 8 < cLine := by omega
theorem nroom1 {A : Around} (h : A.units + 64 < cLine) : A.in1.units + 8 < cLine := by rw [Around.in1_units]; omega
theorem nroom2 {A : Around} (h : A.units + 64 < cLine) : A.in1.in1.units + 8 < cLine := by rw [Around.in1_units, Around.in1_units]; omega

/-- k in d -/
def rDIn (X : Cx) (C : Addr) (neg : Bool) : R2 := fun x y H Q => ∃ k a ks vs, IsK (gs X C) H x k ∧ y = .ref a ∧ DAt (gs X C) H (.ref a) (.dct ks vs) ∧ Q (.bl (if neg then !(kix ks (key k)).isSome else (kix ks (key k)).isSome)) H
theorem atKey_kix {G : Gs} {H : Hp} {ks vs : List D} {xs : List (NestedKey × Addr × Value)} (t : DEnt G H ks vs xs) (k : NestedKey) : (atKey xs k).isSome = (kix ks k).isSome := by
  cases e : kix ks k with
  | none => rw [t.none e]; rfl
  | some i => obtain ⟨b, u, _, _, h, _⟩ := t.some e; rw [h]; rfl
theorem op_dIn (hu : X.A.units + 64 < cLine) : OpR X (compareOp .In) (rDIn X C false) := by
  intro pins s σ H x y v u Q I rx ry h
  obtain ⟨k, a, ks, vs, ⟨hk, k1, k2, b, rfl⟩, rfl, hd, q⟩ := h
  cases rx
  cases ry
  obtain ⟨o, xs, h1, h2, h3⟩ := hd.dd
  refine wpAny_in_heap (knd := nestedKind X.prog X.w) (nroom1 hu) ⟨DAt.nest I k1 hk rfl, k2⟩ h2.low (dofH I h1 h2 h3) ?_
  rw [atKey_kix h3]
  exact ⟨.bl _, H, I.tok _, rfl, q⟩
theorem op_dNotIn (hu : X.A.units + 64 < cLine) : OpR X (compareOp .NotIn) (rDIn X C true) := by
  intro pins s σ H x y v u Q I rx ry h
  obtain ⟨k, a, ks, vs, ⟨hk, k1, k2, b, rfl⟩, rfl, hd, q⟩ := h
  cases rx
  cases ry
  obtain ⟨o, xs, h1, h2, h3⟩ := hd.dd
  refine notIn_keyed (knd := nestedKind X.prog X.w) (nroom1 hu) ⟨DAt.nest I k1 hk rfl, k2⟩ h2.low ⟨xs, dofH I h1 h2 h3, rfl⟩ ?_
  rw [valueAt_pairsH, Option.isSome_map, atKey_kix h3]
  exact ⟨.bl _, H, I.tok _, rfl, q⟩
/-- d[k] -/
def rDGet (X : Cx) (C : Addr) : R2 := fun x y H Q => ∃ k a ks vs d, x = .ref a ∧ IsK (gs X C) H y k ∧ DAt (gs X C) H (.ref a) (.dct ks vs) ∧ dget ks vs k = some d ∧ ∀ v, DAt (gs X C) H v d → Q v H
theorem ix_dct (hu : X.A.units + 64 < cLine) : IxR X (rDGet X C) := by
  intro value slice pins s σ H x y v u Q I rx ry h hs
  obtain ⟨k, a, ks, vs, d, rfl, ⟨hk, k1, k2, b, rfl⟩, hd, hg, q⟩ := h
  cases rx
  cases ry
  obtain ⟨o, xs, h1, h2, h3⟩ := hd.dd
  unfold dget at hg
  obtain ⟨i, hi, hv⟩ := Option.bind_eq_some_iff.mp hg
  obtain ⟨b', u', d', v', e1, e2, e3, e4⟩ := h3.some hi
  rw [hv] at e2; cases e2
  have dd := dofH I h1 h2 h3
  exact tail_any dd.typeIs F.slot_dict_getitem.lookup (wpAny_getItem_heap (knd := nestedKind X.prog X.w) (nroom1 hu) ⟨DAt.nest I k1 hk rfl, k2⟩ dd e1 ⟨v', H, I.tok _, e4, q v' e3⟩) hs
/-- d[k] = v: behind it the dict's object is another -/
def rDSet (X : Cx) (C : Addr) : V → V → V → Hp → (Hp → Prop) → Prop := fun x y z H Q => ∃ k a o xs ks vs d, x = .ref a ∧ IsK (gs X C) H y k ∧ DDc (gs X C) H a o xs ks vs ∧ DAt (gs X C) H z d ∧ xs.length < sizeLine ∧
  ∀ o' xs', DctOk X.prog X.w a o' xs' → DEnt (gs X C) H (dput ks vs k d).1 (dput ks vs k d).2 xs' → Q (upd H a (objO a o'))
theorem len_storedH {xs : List (NestedKey × Addr × Value)} {k : NestedKey} {a : Addr} {v : Value} (h : xs.length < sizeLine) : (storedH xs k a v).length ≤ sizeLine := by
  have := storedH_length xs k a v
  omega
theorem set_dct (hu : X.A.units + 64 < cLine) : PSet X (rDSet X C) := by
  intro pins s H0 H x y z v u w Q I rx ry rz h
  obtain ⟨k, a, o, xs, ks, vs, d, rfl, ⟨hk, k1, k2, b, rfl⟩, ⟨h1, h2, h3⟩, hd, hz, q⟩ := h
  cases rx
  cases ry
  refine wpAny_setItem_heap (knd := nestedKind X.prog X.w) (hsz := h2.len) (nroom1 hu) ⟨DAt.nest I k1 hk rfl, k2⟩ (dofH I h1 h2 h3) fun h' dd' hs => ?_
  obtain ⟨o', e, ok⟩ := dct_new h2.low (len_storedH hz) dd'
  exact ⟨_, dct_write I h1 hs e, q o' _ ok (h3.put hk k1 k2 h2.nd hd rz)⟩
/-- len(d) -/
theorem call_len_dct : CallR X (.builtin "len") (fun xs H Q => ∃ a ks vs, xs = [.ref a] ∧ DAt (gs X C) H (.ref a) (.dct ks vs) ∧ Q (.int ks.length) H) := by
  intro pins s σ H xs us Q I r h
  obtain ⟨a, ks, vs, rfl, hd, q⟩ := h
  obtain ⟨u, rfl, rx⟩ := vals1 r
  cases rx
  obtain ⟨o, ys, h1, h2, h3⟩ := hd.dd
  have l := h3.len.1
  refine call_len_dictH (knd := nestedKind X.prog X.w) h2.low (dofH I h1 h2 h3) (by have := h2.len; rw [sizeLine_eq] at this; omega) ?_
  rw [← l]
  exact ⟨.int _, H, I.tok _, ⟨_, rfl⟩, q⟩
/-- list(d): the keys -/
theorem call_list_dct (hc : X.calm = true) : CallR X (.type "list") (fun xs H Q => ∃ a ks vs, xs = [.ref a] ∧ DAt (gs X C) H (.ref a) (.dct ks vs) ∧
    ∀ p bs, H p = none → DAll (gs X C) H bs ks → Q (.ref p) (upd H p (.lst bs))) := by
  intro pins s σ H xs us Q I r h
  obtain ⟨a, ks, vs, rfl, hd, q⟩ := h
  obtain ⟨u, rfl, rx⟩ := vals1 r
  cases rx
  obtain ⟨o, ys, h1, h2, h3⟩ := hd.dd
  obtain ⟨es, ep, hr, _, he, hl⟩ := draw I h1 h2
  refine PySem.W.kdl_call (KdlSrc.rawDict h2.low) (I.ok.hd hc) hr (by rw [hl]; exact h2.len) fun h' tk acc' c' kp e it => ?_
  have ea : acc'.toList = ys.map fun x => Value.ref x.2.1 := by
    have hs : acc'.toList.length = ys.length := by rw [Array.length_toList, it.1, hl]
    refine List.ext_getElem (by rw [hs, List.length_map]) fun j j1 j2 => ?_
    obtain ⟨en, hen⟩ := it.2 j _ (by rw [← Array.getElem?_toList]; exact List.getElem?_eq_getElem j1)
    rw [hen, List.getElem_map]
    have e0 := entry_at he j
    rw [Array.getElem?_eq_getElem en, List.getElem?_eq_getElem (by omega : j < ys.length), Option.map_some] at e0
    rw [Option.some.inj e0]
    rfl
  have all : ∀ {ks vs : List D} {ys : List (NestedKey × Addr × Value)}, DEnt (gs X C) H ks vs ys → DAll (gs X C) H (ys.map fun x => V.ref x.2.1) ks ∧ Vals (ys.map fun x => V.ref x.2.1) (ys.map fun x => Value.ref x.2.1) := by
    intro ks vs ys t
    induction ys generalizing ks vs with
    | nil => cases t; exact ⟨.nil, .nil⟩
    | cons y ys ih =>
      cases t with
      | cons a1 a2 a3 a4 a5 t => obtain ⟨b1, b2⟩ := ih t; exact ⟨.cons a1 b1, .cons rfl b2⟩
  obtain ⟨b1, b2⟩ := all h3
  refine ⟨.ref s.heap.objs.size, _, I.laid (t' := tk) (o := .lst (ys.map fun x => V.ref x.2.1)) kp (Nat.le_refl _) ?_, rfl, q _ _ (I.hok.fresh (Nat.le_refl _)) b1⟩
  refine ⟨by rw [List.length_map]; exact h2.len, acc'.toList, c', by rw [ea]; exact b2, ?_⟩
  rw [Array.toArray_toList]
  exact e
end
end K3

set_option Elab.async false
set_option linter.all false
set_option maxRecDepth 100000
/-! Dicts whose keys are tuples: methods, displays, dict(pairs). -/
namespace K3
open PySem PySem.Spec PyProof.Rows L2

section
variable {X : Cx} {C : Addr}
def tBMD (X : Cx) (C : Addr) (r : V → List V → Hp → VK → Prop) (to : TE) (t : TA) : TE := fun σ H Q => to σ H fun x H1 => ∃ a, x = .ref a ∧ (∃ ks vs, DAt (gs X C) H1 (.ref a) (.dct ks vs)) ∧ t σ H1 fun xs H2 => r (.ref a) xs H2 Q
theorem pe_bmD {o e : Expr} {es : List Expr} {name : Str} {apos cpos : Pos} {id : String} {r : V → List V → Hp → VK → Prop} {to : TE} {t : TA} (slot : Slot "dict" name id) (hty : typeOf (.builtin id) = pure (.type "method_descriptor")) (hm : MtR X id r) (ho : PE X o to) (ha : PA X (e :: es) t)
    (hbase : attributeBase o name X.env (eval o X.env) = eval o X.env := by rfl)
    (hfew : ((backTo cpos (starEach (e :: es) X.env)).all (fun x => !x.1) && (backToKw cpos (keywordEach [] X.env)).all (fun x => x.1.isSome)
      && decide ((e :: es).length + ([] : List Keyword).length + (if ([] : List Keyword).isEmpty then 0 else 1) < 30)) = true := by rfl)
    (hline : (apos.endLine == cpos.line) = true := by rfl) (hs : starEach (e :: es) X.env = (false, eval e X.env) :: starEach es X.env := by rfl) (hplain : (backTo cpos (starEach es X.env)).any (·.1) = false := by rfl) :
    PE X (.Call (.Attribute o name apos) (e :: es) [] cpos) (tBMD X C r to t) := by
  refine ⟨fun pins s σ H Q I h => wpAny_Call_method_late hbase hfew hline rfl (thn (ho.run pins s σ H _ I h) ?_)⟩
  rintro v s1 ⟨x, H1, I1, r1, a, rfl, ⟨ks, vs, hd⟩, q1⟩
  cases r1
  obtain ⟨ob, ys, h1, h2, h3⟩ := hd.dd
  have dd := dofH I1 h1 h2 h3
  refine ⟨"dict", id, F.plainAttrs_dict, slot, hty, dd.typeIs, (fun b e => ?_), ?_⟩
  · cases e; exact ⟨ob, objO_at I1 h1, h2.ex.2.1⟩
  · have hA := ha.run cpos pins s1 σ H1 _ I1 q1
    rw [hs] at hA ⊢
    refine Calls.callWith_builtin (by show (false || (backTo cpos (starEach es X.env)).any (·.1)) = false; rw [hplain]; rfl) (Calls.evalArgs_plain (thn hA ?_))
    rintro us s2 ⟨ws, H2, I2, r2, q2⟩
    exact hm pins s2 σ H2 (.ref a) ws _ us Q I2 rfl r2 q2

/-- d.setdefault(k, v) -/
def rDSd (X : Cx) (C : Addr) : V → List V → Hp → VK → Prop := fun x ys H Q => ∃ k a o xs ks vs d y z, x = .ref a ∧ ys = [y, z] ∧ IsK (gs X C) H y k ∧ DDc (gs X C) H a o xs ks vs ∧ DAt (gs X C) H z d ∧ xs.length < sizeLine ∧
  (∀ e v, dget ks vs k = some e → DAt (gs X C) H v e → Q v H) ∧
  (kix ks (key k) = none → ∀ o' xs', DctOk X.prog X.w a o' xs' → DEnt (gs X C) H (ks ++ [k]) (vs ++ [d]) xs' → Q z (upd H a (objO a o')))
theorem mt_dsd (hu : X.A.units + 64 < cLine) : MtR X "dict.setdefault" (rDSd X C) := by
  intro pins s H0 H x ys v us Q I rx rs h
  obtain ⟨k, a, o, xs, ks, vs, d, y, z, rfl, rfl, ⟨hk, k1, k2, b, rfl⟩, ⟨h1, h2, h3⟩, hd, hz, q1, q2⟩ := h
  cases rx
  cases rs with
  | cons ry rs =>
    cases rs with
    | cons rz rs =>
      cases rs
      cases ry
      refine call_setdefault_heap (knd := nestedKind X.prog X.w) (hsz := h2.len) (nroom1 hu) ⟨DAt.nest I k1 hk rfl, k2⟩ h2.low (dofH I h1 h2 h3) (fun p hp => ?_) (fun hn h' dd' hs => ?_)
      · cases e : kix ks (key k) with
        | none => rw [h3.none e] at hp; cases hp
        | some i =>
          obtain ⟨b', u', d', v', e1, e2, e3, e4⟩ := h3.some e
          rw [hp] at e1; cases e1
          exact ⟨v', H, I.tok _, e4, q1 d' v' (by unfold dget; rw [e]; exact e2) e3⟩
      · have e : kix ks (key k) = none := by
          cases e : kix ks (key k) with
          | none => rfl
          | some i => obtain ⟨b', u', d', v', e1, _⟩ := h3.some e; rw [hn] at e1; cases e1
        obtain ⟨o', eo, ok⟩ := dct_new h2.low (len_storedH hz) dd'
        have t := h3.put hk k1 k2 h2.nd hd rz
        unfold dput at t
        rw [e] at t
        exact ⟨z, _, dct_write I h1 hs eo, rz, q2 e o' _ ok t⟩
/-- d.pop(k), the key there -/
def rDPop (X : Cx) (C : Addr) : V → List V → Hp → VK → Prop := fun x ys H Q => ∃ k a o xs ks vs i y, x = .ref a ∧ ys = [y] ∧ IsK (gs X C) H y k ∧ DDc (gs X C) H a o xs ks vs ∧ kix ks (key k) = some i ∧
  ∀ o' xs' v, DctOk X.prog X.w a o' xs' → DEnt (gs X C) H (ks.eraseIdx i) (vs.eraseIdx i) xs' → Q v (upd H a (objO a o'))
theorem len_withoutH (xs : List (NestedKey × Addr × Value)) (k : NestedKey) : (withoutH xs k).length ≤ xs.length := List.length_filter_le _ _
theorem mt_dpop (hu : X.A.units + 64 < cLine) : MtR X "dict.pop" (rDPop X C) := by
  intro pins s H0 H x ys v us Q I rx rs h
  obtain ⟨k, a, o, xs, ks, vs, i, y, rfl, rfl, ⟨hk, k1, k2, b, rfl⟩, ⟨h1, h2, h3⟩, hi, q⟩ := h
  cases rx
  cases rs with
  | cons ry rs =>
    cases rs
    cases ry
    obtain ⟨b', u', d', v', e1, e2, e3, e4⟩ := h3.some hi
    refine call_pop_heap (knd := nestedKind X.prog X.w) (hsz := h2.len) (.inl rfl) (F.args_dict_pop_2 _ _) (nroom1 hu) ⟨DAt.nest I k1 hk rfl, k2⟩ h2.low (dofH I h1 h2 h3) e1 fun h' dd' hs => ?_
    obtain ⟨o', eo, ok⟩ := dct_new h2.low (Nat.le_trans (len_withoutH _ _) h2.len) dd'
    exact ⟨v', _, dct_write I h1 hs eo, e4, q o' _ v' ok (h3.without hi h2.nd)⟩
/-- d.update(e): e holds other keys than d, d is not empty -/
def rDUpd (X : Cx) (C : Addr) : V → List V → Hp → VK → Prop := fun x ys H Q => ∃ a b o xs ks vs ks2 vs2, x = .ref a ∧ ys = [.ref b] ∧ DDc (gs X C) H a o xs ks vs ∧ DAt (gs X C) H (.ref b) (.dct ks2 vs2) ∧ a ≠ b ∧ ks ≠ [] ∧ ks.length + ks2.length ≤ sizeLine ∧
  (∀ k ∈ ks2, key k ∉ ks.map key) ∧ ∀ o' xs', DctOk X.prog X.w a o' xs' → DEnt (gs X C) H (ks ++ ks2) (vs ++ vs2) xs' → Q .non (upd H a (objO a o'))
theorem storedAllH_new : ∀ {ys xs : List (NestedKey × Addr × Value)}, (∀ y ∈ ys, y.1 ∉ xs.map (·.1)) → (ys.map (·.1)).Nodup → storedAllH xs ys = xs ++ ys
  | [], xs, _, _ => by simp [storedAllH]
  | y :: ys, xs, h, hn => by
    rw [List.map_cons, List.nodup_cons] at hn
    show storedAllH (storedH xs y.1 y.2.1 y.2.2) ys = _
    have e : atKey xs y.1 = none := by
      have := h y List.mem_cons_self
      unfold atKey
      rw [List.find?_eq_none.mpr fun x hx => by
        have : x.1 ≠ y.1 := fun q => this (List.mem_map.mpr ⟨x, hx, q⟩)
        simpa using this]
      rfl
    rw [storedH_new e, storedAllH_new (fun z hz => ?_) hn.2]
    · simp
    · rw [List.map_append, List.mem_append]
      rintro (q | q)
      · exact h z (List.mem_cons_of_mem _ hz) q
      · have q' : z.1 = y.1 := by simpa using q
        exact hn.1 (q' ▸ List.mem_map.mpr ⟨z, hz, rfl⟩)
theorem mt_dupd (hu : X.A.units + 64 < cLine) : MtR X "dict.update" (rDUpd X C) := by
  intro pins s H0 H x ys v us Q I rx rs h
  obtain ⟨a, b, o, xs, ks, vs, ks2, vs2, rfl, rfl, ⟨h1, h2, h3⟩, hd2, hab, hne, hz, hap, q⟩ := h
  cases rx
  cases rs with
  | cons ry rs =>
    cases rs
    cases ry
    obtain ⟨o2, xs2, g1, g2, g3⟩ := hd2.dd
    have hk2 := g3.keys
    have e : storedAllH xs xs2 = xs ++ xs2 := storedAllH_new (fun y hy => by
      have hm : y.1 ∈ xs2.map (·.1) := List.mem_map.mpr ⟨y, hy, rfl⟩
      rw [hk2] at hm
      obtain ⟨k, hk, e⟩ := List.mem_map.mp hm
      rw [← e, h3.keys]
      exact hap k hk) g2.nd
    have l : xs.length + xs2.length ≤ sizeLine := by rw [← h3.len.1, ← g3.len.1]; exact hz
    refine call_update_dictH (knd := nestedKind X.prog X.w) (nroom1 hu) hab g2.low (dofH I h1 h2 h3) (dofH I g1 g2 g3) (.inl fun z => ?_) l fun h' dd' _ hs => ?_
    · rw [z] at h3; cases h3; exact hne rfl
    · rw [e] at dd'
      obtain ⟨o', eo, ok⟩ := dct_new h2.low (by rw [List.length_append]; exact l) dd'
      exact ⟨.non, _, dct_write (t' := s.toks) I h1 hs eo, rfl, q o' _ ok (h3.append g3)⟩
end

/-! ### new dicts -/
section
variable {X : Cx} {C : Addr}
theorem dct_empty {P : Program} {w : World} {a : Addr} {o : Obj} (low : (a == sysModules) = false) (ho : o.ExactDict) (hd : ∃ ep, o.data = .dict #[] ep) : DctOk P w a o [] :=
  ⟨low, List.nodup_nil, Nat.zero_le _, ho, let ⟨ep, e⟩ := hd; ⟨#[], ep, e, rfl⟩⟩
theorem low_new {pins : List (Addr × Obj)} {σ : L2.St} {H : Hp} {s : Shared} (I : Inv X pins σ H s) : (s.heap.objs.size == sysModules) = false := by
  have h : sysModules < s.heap.objs.size := I.big
  exact beq_eq_false_iff_ne.mpr (Nat.ne_of_gt h)
/-- {} -/
def tDNew (X : Cx) : TE := fun _ H Q => ∀ p o, H p = none → DctOk X.prog X.w p o [] → Q (.ref p) (upd H p (objO p o))
theorem pe_dnew {pos : Pos} : PE X (.Dict [] [] pos) (tDNew X) := ⟨fun pins s σ H Q I h =>
  wpAny_Dict_empty ⟨.ref s.heap.objs.size, _, I.laid (a := s.heap.objs.size) (o := objO s.heap.objs.size { cls := .type "dict", data := .dict #[] }) (t' := s.toks) (fun _ _ q => Heap.get?_push_of_some _ q) (Nat.le_refl _) (objOk (Heap.get?_push_size _ rfl)), rfl,
    h _ _ (I.hok.fresh (Nat.le_refl _)) (dct_empty (low_new I) ⟨rfl, rfl, rfl⟩ ⟨0, rfl⟩)⟩⟩
/-- {k: v} -/
def tDOne (X : Cx) (C : Addr) (tk tv : TE) : TE := fun σ H Q => ∀ p o, H p = none → DctOk X.prog X.w p o [] → tPairs [(tk, tv)] σ (upd H p (objO p o)) fun ps H2 => ∃ y z k d, ps = [(y, z)] ∧ IsK (gs X C) H2 y k ∧ DAt (gs X C) H2 z d ∧ H2 p = some (objO p o) ∧
  ∀ o' xs', DctOk X.prog X.w p o' xs' → DEnt (gs X C) H2 [k] [d] xs' → Q (.ref p) (upd H2 p (objO p o'))
theorem pe_done {kx vx : Expr} {pos : Pos} {tk tv : TE} (hu : X.A.units + 64 < cLine) (hk : PE X kx tk) (hv : PE X vx tv) : PE X (.Dict [some kx] [vx] pos) (tDOne X C tk tv) := by
  refine ⟨fun pins s σ H Q I h => ?_⟩
  have n0 := I.hok.fresh (Nat.le_refl s.heap.objs.size)
  have ok0 : DctOk X.prog X.w s.heap.objs.size { cls := .type "dict", data := .dict #[] } [] := dct_empty (low_new I) ⟨rfl, rfl, rfl⟩ ⟨0, rfl⟩
  have I1 := I.laid (a := s.heap.objs.size) (o := objO s.heap.objs.size { cls := .type "dict", data := .dict #[] }) (h' := s.heap.push { cls := .type "dict", data := .dict #[] }) (t' := s.toks) (fun _ _ q => Heap.get?_push_of_some _ q) (Nat.le_refl _) (objOk (Heap.get?_push_size _ rfl))
  have q0 := h _ _ n0 ok0
  have pp : PPs X pos [some kx] [vx] [(tk, tv)] := pps_cons hk hv pps_nil
  have hshape : (evalEachOpt [some kx] X.env).zip ((evalEach [vx] X.env).map fun v => do let x ← v; standAt pos; pure x) = [(eval kx X.env, do let x ← eval vx X.env; standAt pos; pure x)].map fun p => (some p.1, p.2) := by rfl
  rw [arm_eval_Dict, hshape, dictDisplay_pairs _ (by simp) (by simp)]
  refine wpAny_bind (wpAny_standAt (wpAny_bind (wpAny_subDictH (knd := nestedKind X.prog X.w) (nroom hu) (by simp) (thn (pp.run pins _ σ _ _ I1 q0) ?_))))
  rintro ws s2 ⟨ps, H2, I2, rel, y, z, k, d, rfl, ⟨kk, k1, k2, b, rfl⟩, hd, e2, q⟩
  cases rel with
  | cons r0 rel =>
    cases rel
    rename_i w0
    obtain ⟨wk, wv⟩ := w0
    obtain ⟨rk, rv⟩ := r0
    have rk' : wk = Value.ref b := rk
    subst rk'
    have t0 : DEnt (gs X C) H2 [] [] [] := .nil
    refine ⟨[(key k, b, wv)], ⟨rfl, rfl, ⟨DAt.nest I2 k1 kk rfl, k2⟩, trivial⟩, dofH I2 e2 ok0 t0, fun h' tk dd' hs => wpAny_pure ?_⟩
    obtain ⟨o', eo, ok⟩ := dct_new (low_new I) (by show 1 ≤ sizeLine; decide) dd'
    exact ⟨.ref s.heap.objs.size, _, dct_write I2 e2 hs eo, rfl, q o' _ ok (.cons kk k1 k2 hd rv .nil)⟩

/-- dict(ps), ps a list of pairs -/
def rDPairs (X : Cx) (C : Addr) : List V → Hp → VK → Prop := fun xs H Q => ∃ a ks vs, xs = [.ref a] ∧ DAt (gs X C) H (.ref a) (.lst ((ks.zip vs).map fun p => .tup [p.1, p.2])) ∧ ks.length = vs.length ∧
  (∀ k ∈ ks, kyb k = true ∧ (key k).depth ≤ 8 ∧ ∃ ds, k = .tup ds) ∧ (ks.map key).Nodup ∧
  ∀ p o' xs', H p = none → DctOk X.prog X.w p o' xs' → DEnt (gs X C) H ks vs xs' → Q (.ref p) (upd H p (objO p o'))
end
end K3

set_option Elab.async false
set_option linter.all false
set_option maxRecDepth 100000
/-! dict(pairs), list(d.items()). -/
namespace K3
open PySem PySem.Spec PyProof.Rows L2

section
variable {X : Cx} {C : Addr} {pins : List (Addr × Obj)} {σ : L2.St} {H : Hp} {s : Shared}
theorem two_of {G : Gs} {H : Hp} {vs : List V} {a b : D} (h : DAll G H vs [a, b]) : ∃ x y, vs = [x, y] ∧ DAt G H x a ∧ DAt G H y b := by
  cases h with
  | cons h1 h =>
    cases h with
    | cons h2 h => cases h; exact ⟨_, _, rfl, h1, h2⟩
theorem pairs_in (I : Inv X pins σ H s) : ∀ (ks vs : List D) (us : List V) (its : List Value), ks.length = vs.length → (∀ k ∈ ks, kyb k = true ∧ (key k).depth ≤ 8 ∧ ∃ ds, k = .tup ds) →
    DAll (gs X C) H us ((ks.zip vs).map fun p => .tup [p.1, p.2]) → Vals us its → ∃ (Ts : List Addr) (xs : List (NestedKey × Addr × Value)), its = Ts.map Value.ref ∧ Ts.length = xs.length ∧ DEnt (gs X C) H ks vs xs ∧
      ∀ (j : Nat) (T : Addr) (x : NestedKey × Addr × Value), Ts[j]? = some T → xs[j]? = some x → s.heap.IsTuple T #[.ref x.2.1, x.2.2]
  | [], [], us, its, _, _, h, r => by
    cases h; cases r
    exact ⟨[], [], rfl, rfl, .nil, fun j T x e => by cases e⟩
  | [], _ :: _, _, _, l, _, _, _ => by cases l
  | _ :: _, [], _, _, l, _, _, _ => by cases l
  | k :: ks, v :: vs, us, its, l, hk, h, r => by
    cases h with
    | cons h1 h2 =>
      cases r with
      | cons r1 r2 =>
        obtain ⟨Ts, xs, e1, e2, e3, e4⟩ := pairs_in I ks vs _ _ (Nat.succ.inj l) (fun k hk' => hk k (List.mem_cons_of_mem _ hk')) h2 r2
        obtain ⟨k1, k2, ds, rfl⟩ := hk k List.mem_cons_self
        cases h1 with
        | @tup T ws _ t1 t2 =>
          obtain ⟨x, y, rfl, d1, d2⟩ := two_of t2
          cases r1
          obtain ⟨its2, rv, tp, _⟩ := I.tuple t1
          cases rv with
          | cons q1 rv =>
            cases rv with
            | cons q2 rv =>
              cases rv
              cases d1 with
              | @tup b ws' _ u1 u2 =>
                cases q1
                refine ⟨T :: Ts, (key (.tup ds), b, _) :: xs, by rw [List.map_cons, e1], by simp [e2], .cons (.tup u1 u2) k1 k2 d2 q2 e3, fun j T' x' f1 f2 => ?_⟩
                cases j with
                | zero =>
                  simp only [List.getElem?_cons_zero, Option.some.injEq] at f1 f2
                  subst f1 f2
                  exact tp
                | succ j => exact e4 j T' x' (by simpa using f1) (by simpa using f2)
theorem call_dict_prs (hc : X.calm = true) (hu : X.A.units + 64 < cLine) : CallR X (.type "dict") (rDPairs X C) := by
  intro pins s σ H xs us Q I r h
  obtain ⟨a, ks, vs, rfl, hd, hl, hk, hn, q⟩ := h
  obtain ⟨u, rfl, rx⟩ := vals1 r
  cases rx
  cases hd with
  | @lst _ ws _ t1 t2 =>
    obtain ⟨its, rv, ⟨o, n, ho, hcl, hdd, hdat⟩, hz⟩ := I.list t1
    obtain ⟨Ts, ys, rfl, e2, e3, e4⟩ := pairs_in I ks vs ws its hl hk t2 rv
    have lz : ys.length ≤ sizeLine := by
      have h1 := rv.length
      rw [List.length_map] at h1
      omega
    have nd : (ys.map (·.1)).Nodup := by rw [e3.keys]; exact hn
    have es : storedAllH [] ys = ys := by
      have := storedAllH_new (xs := []) (ys := ys) (fun _ _ => by simp) nd
      simpa using this
    have lp : (ys.map fun x => (Value.ref x.2.1, x.2.2)).length = ys.length := List.length_map _
    have ok : PlainSeq "list" s.heap a (Ts.map Value.ref).toArray ∧ PairItems s.heap (Ts.map Value.ref).toArray (fun j => Ts.getD j 0) (ys.map fun x => (Value.ref x.2.1, x.2.2)) := by
      refine ⟨⟨o, n, ho, hcl, hdd, hdat⟩, by simp [e2], fun j k v e => ?_⟩
      rw [List.getElem?_map] at e
      obtain ⟨x, hx, e⟩ := Option.map_eq_some_iff.mp e
      cases e
      obtain ⟨hj, ex⟩ := List.getElem?_eq_some_iff.mp hx
      have hT : Ts[j]? = some Ts[j] := List.getElem?_eq_getElem (by omega)
      refine ⟨?_, .inl ?_⟩
      · simp [hT, List.getD]
      · have : Ts.getD j 0 = Ts[j] := by simp [List.getD, hT]
        show s.heap.IsTuple (Ts.getD j 0) _
        rw [this]
        exact e4 j _ x hT hx
    refine call_dict_pairsH (knd := nestedKind X.prog X.w) (PairArg.list a (Ts.map Value.ref).toArray (fun j => Ts.getD j 0) (ys.map fun x => (Value.ref x.2.1, x.2.2))) (I.ok.hd hc) (nroom2 hu) ok
      ⟨lp.symm, fun i k v e => ?_⟩ (fun h' kp x hx => ?_) (by rw [lp]; exact lz) fun h' tk dd' kp => ?_
    · have e' : (ys.map fun x => (Value.ref x.2.1, x.2.2))[i]? = some (k, v) := e
      rw [List.getElem?_map] at e'
      obtain ⟨x, hx, e'⟩ := Option.map_eq_some_iff.mp e'
      cases e'
      exact ⟨x.1, x.2.1, hx, rfl⟩
    · exact nestedKind_stays.stays (fun b o vs m e _ => kp b o (Nat.ne_of_lt (Heap.lt_size e)) (by simp) e) (DEnt.isKey I e3 x hx)
    · rw [es] at dd'
      obtain ⟨o', eo, okk⟩ := dct_new (low_new I) lz dd'
      exact ⟨.ref s.heap.objs.size, _, I.laid (t' := tk) (o := objO s.heap.objs.size o') (fun b o e => kp b o (by simp) e) (Nat.le_refl _) (objOk eo), rfl, q _ o' _ (I.hok.fresh (Nat.le_refl _)) okk e3⟩

/-- list(d.items()): new pairs -/
def rDItems (X : Cx) (C : Addr) : V → Hp → VK → Prop := fun x H Q => ∃ a ks vs, x = .ref a ∧ DAt (gs X C) H (.ref a) (.dct ks vs) ∧
  ∀ (H' : Hp) (p : Addr), Same H H' → H p = none → DAt (gs X C) H' (.ref p) (.lst ((ks.zip vs).map fun q => .tup [q.1, q.2])) → Q (.ref p) H'
/-- the pairs laid at as -/
def layP (H : Hp) (as : List Addr) (ps : List (V × V)) (l : Addr) : Hp := fun b => if b = l then some (.lst (as.map V.ref)) else match as.findIdx? (fun c => decide (c = b)) with
  | some j => (ps[j]?).map fun p => .tup [p.1, p.2]
  | none => H b
theorem layP_l {H : Hp} {as : List Addr} {ps : List (V × V)} {l : Addr} : layP H as ps l l = some (.lst (as.map V.ref)) := by unfold layP; rw [if_pos rfl]
theorem layP_off {H : Hp} {as : List Addr} {ps : List (V × V)} {l b : Addr} (h1 : b ≠ l) (h2 : b ∉ as) : layP H as ps l b = H b := by
  unfold layP
  have e : as.findIdx? (fun c => decide (c = b)) = none := List.findIdx?_eq_none_iff.mpr fun c hc => decide_eq_false fun e => h2 (by rw [← e]; exact hc)
  rw [if_neg h1, e]
theorem layP_at {H : Hp} {as : List Addr} {ps : List (V × V)} {l : Addr} (hn : as.Nodup) (hl : l ∉ as) {j : Nat} {b : Addr} {p : V × V} (h : as[j]? = some b) (hp : ps[j]? = some p) : layP H as ps l b = some (.tup [p.1, p.2]) := by
  unfold layP
  have hb : b ∈ as := List.mem_of_getElem? h
  rw [if_neg (fun e : b = l => hl (by rw [← e]; exact hb))]
  have e : as.findIdx? (fun c => decide (c = b)) = some j := by
    obtain ⟨hj, ej⟩ := List.getElem?_eq_some_iff.mp h
    refine List.findIdx?_eq_some_iff_getElem.mpr ⟨hj, decide_eq_true ej, fun i hi => ?_⟩
    have : as[i] ≠ b := fun e => by
      have := (List.getElem_inj hn).mp (e.trans ej.symm)
      omega
    simpa using this
  rw [e]
  show (ps[j]?).map _ = _
  rw [hp]; rfl
theorem DEnt.vls {G : Gs} {H : Hp} : ∀ {ks vs : List D} {xs : List (NestedKey × Addr × Value)}, DEnt G H ks vs xs → ∃ ws : List V, DAll G H ws vs ∧ Vals ws (xs.map (·.2.2)) ∧ DAll G H (xs.map fun x => V.ref x.2.1) ks
  | _, _, _, .nil => ⟨[], .nil, .nil, .nil⟩
  | _, _, _, .cons a1 _ _ a4 a5 t => by
    obtain ⟨ws, h1, h2, h3⟩ := t.vls
    exact ⟨_ :: ws, .cons a4 h1, .cons a5 h2, .cons a1 h3⟩
theorem dall_pairs {G : Gs} {H : Hp} : ∀ (as : List Addr) (ks vs : List D) (bs ws : List V), as.length = bs.length → DAll G H bs ks → DAll G H ws vs → ks.length = vs.length → (∀ (j : Nat) (b : Addr) (k v : V), as[j]? = some b → bs[j]? = some k → ws[j]? = some v → SqT G.K H b [k, v]) →
    DAll G H (as.map V.ref) ((ks.zip vs).map fun q => .tup [q.1, q.2])
  | [], ks, vs, bs, ws, l, h1, h2, l2, _ => by
    cases bs with
    | nil => cases h1; exact .nil
    | cons _ _ => cases l
  | a :: as, ks, vs, bs, ws, l, h1, h2, l2, h => by
    cases bs with
    | nil => cases l
    | cons b bs =>
      cases h1 with
      | cons k1 k2 =>
        cases h2 with
        | nil => cases l2
        | cons v1 v2 => exact .cons (.tup (h 0 a b _ rfl rfl rfl) (.cons k1 (.cons v1 .nil))) (dall_pairs as _ _ bs _ (Nat.succ.inj l) k2 v2 (Nat.succ.inj l2) fun j b' k v e1 e2 e3 => h (j + 1) b' k v (by simpa using e1) (by simpa using e2) (by simpa using e3))
end
section
variable {X : Cx} {C : Addr}
theorem pe_litems {e : Expr} {te : TE} {p apos cpos pos : Pos} (hc : X.calm = true) (he : PE X e te) (hg : Gl X "list") (hm : X.mg "list" = none) (hv : bootBuiltins "list" = some (.type "list")) (hbase : attributeBase e "items" X.env (eval e X.env) = eval e X.env := by rfl) (hline : (apos.endLine == cpos.line) = true := by rfl)
    (hs : starEach [.Call (.Attribute e "items" apos) [] [] cpos] X.env = (false, eval (.Call (.Attribute e "items" apos) [] [] cpos) X.env) :: starEach [] X.env := by rfl) :
    PE X (.Call (.Name "list" p) [.Call (.Attribute e "items" apos) [] [] cpos] [] pos) (fun σ H Q => te σ H fun x H1 => rDItems X C x H1 Q) := by
  refine ⟨fun pins s σ H Q I hq => wpAny_Call_Name_kw (ld_blt I hg hm hv (PyProof.Rows.callWith_type1 ?_ hs rfl))⟩
  rw [hs]
  show wpAny _ _ (spliced ((false, eval (.Call (.Attribute e "items" apos) [] [] cpos) X.env) :: backTo pos (starEach [] X.env))) _ _ s
  refine Calls.spliced_cons (wpAny_Call_method (T := "dict") (id := "dict.items") hbase rfl hline F.plainAttrs_dict F.slot_dict_items F.type_dict_items (thn (he.run pins s σ H _ I hq) ?_))
  rintro u s1 ⟨x, H1, I1, rx, d, ks, vs, rfl, hd, q⟩
  cases rx
  obtain ⟨o, xs, h1, h2, h3⟩ := hd.dd
  obtain ⟨es, ep, hr, hdat, hen, hsz⟩ := draw I1 h1 h2
  have I2 : Inv X pins σ H1 { s1 with heap := s1.heap.push { cls := .type "dict_items", data := .fields #[.ref d] } } := I1.kept (t' := s1.toks) fun b ob q => Heap.get?_push_of_some _ q
  refine ⟨hr.typeIs, (fun b e => by cases e; exact ⟨o, objO_at I1 h1, h2.ex.2.1⟩), ?_⟩
  show wpAny _ _ (callWith cpos (.builtin "dict.items") [.ref d] [] []) _ X.xe s1
  refine method_meetsIn F.slot_dict_items F.entry_dict_items rfl (PySem.evalArgs_none ⟨rfl, hr.typeIs, F.args_dict_items_1 _, _, meets_dict_items_raw d h2.low, ⟨⟨es, ep, hr⟩, Calls.spliced_nil ?_⟩⟩)
  refine PySem.W.dil_call (es := es) (ep := ep) (d := d) (I1.ok.hd hc) ⟨_, Heap.get?_push_size _ rfl, rfl, rfl⟩ (hr.push _) (by rw [hsz]; exact h2.len) fun h' tk acc c as hk hS hl hG hacc => ?_
  obtain ⟨ws, w1, w2, w3⟩ := h3.vls
  generalize hL : (Heap.push s1.heap { cls := .type "dict_items", data := .fields #[.ref d] }).objs.size = L at hS hG ⊢
  have nd : as.Nodup := List.Pairwise.imp (fun {a b} (h : a < b) => Nat.ne_of_lt h) hG.rise
  have nL : L ∉ as := fun z => Nat.lt_irrefl _ (hG.above _ z)
  have la : as.length = xs.length := hl.trans hsz
  have lw : ws.length = xs.length := by rw [w2.length, List.length_map]
  have new : ∀ t ∈ as, H1 t = none := fun t ht => I2.hok.fresh (by show (Heap.push s1.heap _).objs.size ≤ t; rw [hL]; exact Nat.le_of_lt (hG.above t ht))
  have newL : H1 L = none := I2.hok.fresh (Nat.le_of_eq hL)
  have kp : ∀ b u, H1 b = some u → layP H1 as ((xs.map fun x => V.ref x.2.1).zip ws) L b = some u := fun b u e => by
    rw [layP_off (fun z => by rw [z, newL] at e; cases e) (fun z => by rw [new b z] at e; cases e)]
    exact e
  have low : ∀ b o, (Heap.push s1.heap { cls := .type "dict_items", data := .fields #[.ref d] }).get? b = some o → b ∉ as ∧ b ≠ L := fun b o e => by
    have hb := Heap.lt_size e
    rw [hL] at hb
    exact ⟨fun z => absurd hb (Nat.not_lt.mpr (Nat.le_of_lt (hG.above b z))), Nat.ne_of_lt hb⟩
  have tupAt : ∀ (j : Nat) (b : Addr), as[j]? = some b → ∃ x v, xs[j]? = some x ∧ ws[j]? = some v ∧ RelV v x.2.2 ∧ layP H1 as ((xs.map fun x => V.ref x.2.1).zip ws) L b = some (.tup [.ref x.2.1, v]) ∧
      h'.get? b = some { cls := .type "tuple", data := .seq #[.ref x.2.1, x.2.2] } := fun j b e => by
    obtain ⟨hj, eb⟩ := hG.pairs j b e
    have hjx : j < xs.length := by omega
    have hx : xs[j]? = some xs[j] := List.getElem?_eq_getElem hjx
    have hw : ws[j]? = some ws[j] := List.getElem?_eq_getElem (by omega)
    obtain ⟨u, hu, ru⟩ := w2.get hw
    rw [List.getElem?_map, hx] at hu
    cases hu
    have e0 := entry_at hen j
    rw [Array.getElem?_eq_getElem hj, hx, Option.map_some] at e0
    have e1 := Option.some.inj e0
    refine ⟨xs[j], ws[j], hx, hw, ru, layP_at nd nL e (p := (.ref xs[j].2.1, ws[j])) ?_, ?_⟩
    · rw [List.getElem?_zip_eq_some]
      exact ⟨by rw [List.getElem?_map, hx]; rfl, hw⟩
    · rw [eb, e1]; rfl
  refine ⟨.ref L, _, I2.call' (ch := []) (s' := { s1 with heap := h', toks := tk }) rfl ⟨fun b o q _ _ _ => hk b o q, fun b o q _ _ _ => ⟨o.slots, hk b o q⟩, fun b o q n _ => ?_, fun b o q _ => ⟨o, hk b o q⟩, fun b xs q => kp b _ q, fun b o u q => kp b _ q, fun b ps q => ⟨#[], by rw [kp b _ q]; simp⟩⟩ (fun b u q0 => ?_) I2.bare (fun b z => by simp at z), rfl,
    q _ L kp newL ?_⟩
  · obtain ⟨z1, z2⟩ := low b o q
    rw [layP_off z2 z1]
    exact n
  · by_cases hb : b ∈ as
    · obtain ⟨j, hj⟩ := List.mem_iff_getElem?.mp hb
      obtain ⟨x, v, f1, f2, f3, f4, f5⟩ := tupAt j b hj
      rw [f4] at q0
      cases q0
      exact ⟨by show 2 ≤ sizeLine; decide, [.ref x.2.1, x.2.2], .cons rfl (.cons f3 .nil), ⟨_, f5, rfl, _, rfl⟩⟩
    · by_cases hb2 : b = L
      · subst hb2
        rw [layP_l] at q0
        cases q0
        refine ⟨by rw [List.length_map, la]; exact h2.len, acc.toList, c, by rw [hacc]; exact LiI.vals_refs as, ?_⟩
        rw [Array.toArray_toList]
        exact hS
      · rw [layP_off hb2 hb] at q0
        exact (I2.hok b u q0).stay (fun d v _ y => hk d v y) (fun d y => kp d _ y) fun d xs y => kp d _ y
  · refine .lst (SqL.of layP_l) (dall_pairs as ks vs (xs.map fun x => V.ref x.2.1) ws (by rw [List.length_map, la]) (w3.mn kp) (w1.mn kp) (by rw [h3.len.1, h3.len.2]) fun j b k v e1 e2 e3 => ?_)
    obtain ⟨x, v', f1, f2, f3, f4, f5⟩ := tupAt j b e1
    rw [List.getElem?_map, f1] at e2
    cases e2
    rw [f2] at e3
    cases e3
    exact SqT.of f4
end
end K3

set_option Elab.async false
set_option linter.all false
set_option maxRecDepth 100000
/-! Walks over dicts whose object is known; dict comprehensions. -/
namespace K3
open PySem PySem.Spec PyProof.Rows L2

/-! ### dicts with whole numbers as keys -/
structure IDc (P : Program) (w : World) (a : Addr) (o : Obj) (kvs : List (Int × Value)) : Prop where
  low : (a == sysModules) = false
  len : kvs.length ≤ sizeLine
  at_ : ∀ h : Heap, h.get? a = some o → h.DictOf (intKind P w) a kvs
  raw : ∃ es ep, o.ExactDict ∧ o.data = .dict es ep ∧ Pairs (intKind P w) es.toList kvs
  nd : (kvs.map (·.1)).Nodup
theorem idc_new {P : Program} {w : World} {a : Addr} {h' : Heap} {kvs : List (Int × Value)} (low : (a == sysModules) = false) (z : kvs.length ≤ sizeLine) (d : h'.DictOf (intKind P w) a kvs) : ∃ o', h'.get? a = some o' ∧ IDc P w a o' kvs := by
  obtain ⟨o, es, ep, e, r1, r2, r3, r4, r5⟩ := d
  exact ⟨o, e, low, z, fun h q => ⟨o, es, ep, q, r1, r2, r3, r4, r5⟩, ⟨es, ep, r1, r2, r4⟩, r5⟩
/-- the object of a new dict -/
def dct0 : Obj := { cls := .type "dict", data := .dict #[] }
theorem dct0_T {P : Program} {w : World} {a : Addr} (low : (a == sysModules) = false) : DctOk P w a dct0 [] := dct_empty low ⟨rfl, rfl, rfl⟩ ⟨0, rfl⟩
theorem dct0_I {P : Program} {w : World} {a : Addr} (low : (a == sysModules) = false) : IDc P w a dct0 [] :=
  ⟨low, Nat.zero_le _, fun h e => ⟨dct0, #[], 0, e, ⟨rfl, rfl, rfl⟩, rfl, fun _ he => by simp at he, Pairs.nil, List.nodup_nil⟩, ⟨#[], 0, ⟨rfl, rfl, rfl⟩, rfl, Pairs.nil⟩, List.nodup_nil⟩

/-! ### walks: a dict whose object is known stays as it is while that object stands -/
section
variable {P : Program} {w : World} {K : PySem.W.Frag} {tg : Expr} {d : Addr} {o : Obj} {es : Array DictEntry} {ep : Nat}
/-- the values -/
def ItV (d : Addr) (o : Obj) (es : Array DictEntry) : It :=
  ⟨fun i H => H d = some (objO d o) ∧ i < es.size, fun i H x H' => H' = H ∧ ∃ e : DictEntry, es[i]? = some e ∧ RelV x e.val, fun i H => H d = some (objO d o) ∧ es.size ≤ i⟩
/-- the keys -/
def ItK (d : Addr) (o : Obj) (es : Array DictEntry) : It :=
  ⟨fun i H => H d = some (objO d o) ∧ i < es.size, fun i H x H' => H' = H ∧ ∃ e : DictEntry, es[i]? = some e ∧ RelV x e.key, fun i H => H d = some (objO d o) ∧ es.size ≤ i⟩
/-- the pairs, each a new tuple -/
def ItP (d : Addr) (o : Obj) (es : Array DictEntry) : It :=
  ⟨fun i H => H d = some (objO d o) ∧ i < es.size, fun i H x H' => ∃ (T : Addr) (k v : V) (e : DictEntry), es[i]? = some e ∧ RelV k e.key ∧ RelV v e.val ∧ x = .ref T ∧ H T = none ∧ H' = upd H T (.tup [k, v]), fun i H => H d = some (objO d o) ∧ es.size ≤ i⟩
/-- the entries' values (keys) are told -/
def EntV (es : Array DictEntry) : Prop := ∀ (i : Nat) (e : DictEntry), es[i]? = some e → ∃ x, RelV x e.val
def EntK (es : Array DictEntry) : Prop := ∀ (i : Nat) (e : DictEntry), es[i]? = some e → ∃ x, RelV x e.key
theorem rawOf {X : Cx} {pins : List (Addr × Obj)} {σ : L2.St} {H : Hp} {s : Shared} (I : Inv X pins σ H s) (h : H d = some (objO d o)) (hx : o.ExactDict) (hd : o.data = .dict es ep) : s.heap.DictRaw d es ep := ⟨o, objO_at I h, hx, hd⟩
theorem turnV (it : Addr) (hx : o.ExactDict) (hd : o.data = .dict es ep) (he : EntV es) : Turn P w K tg (ItV d o es) [it] it (fun i h => h.IsValIter it d i es.size ep) where
  mem := List.mem_singleton.mpr rfl
  obj := fun i h ⟨oi, e, c, dd⟩ b hb => by
    rw [List.mem_singleton.mp hb]
    exact ⟨oi, e, fun v z => by rw [dd] at z; cases z⟩
  keep := fun i h h' st k => st.at fun oi e => k it (List.mem_singleton.mpr rfl) oi e
  item := by
    rintro X rfl rfl rfl hc i pins s σ H E I hf st ⟨h1, h2⟩
    obtain ⟨f0, f1, f2, f3, f4, f5⟩ := hf it (List.mem_singleton.mpr rfl)
    have e0 : es[i]? = some es[i] := Array.getElem?_eq_getElem h2
    obtain ⟨x, rx⟩ := he i _ e0
    refine wpAny_pyNext_values_item_raw st (rawOf I h1 hx hd) h2 fun h' st' sb => ?_
    obtain ⟨oi, e, c, dd⟩ := id st'
    exact ⟨_, rfl, go_of (s := { s with heap := h' }) e c dd (by decide) ⟨x, H, I.turned (t' := s.toks) (fun b ob hb e => (sb.2 b hb).trans e) f0 f1 f3 f4 f5, rx, ⟨rfl, _, e0, rx⟩, st', fun b hb => (hf b hb).1⟩⟩
  done := by
    rintro X rfl rfl rfl hc i pins s σ H E I hf st ⟨h1, h2⟩
    obtain ⟨f0, f1, f2, f3, f4, f5⟩ := hf it (List.mem_singleton.mpr rfl)
    exact wpAny_pyNext_values_end_raw (I.ok.hd hc) st (rawOf I h1 hx hd) h2 fun h' eb => ⟨rfl, I.turned (t' := s.toks) (fun b ob hb e => eb b ob hb e) f0 f1 f3 f4 f5⟩
  self := fun A i s Q E st h => wpAny_pyIter_valiter st h
theorem turnK (it : Addr) (hx : o.ExactDict) (hd : o.data = .dict es ep) (he : EntK es) : Turn P w K tg (ItK d o es) [it] it (fun i h => h.IsKeyIter it d i es.size ep) where
  mem := List.mem_singleton.mpr rfl
  obj := fun i h ⟨oi, e, c, dd⟩ b hb => by
    rw [List.mem_singleton.mp hb]
    exact ⟨oi, e, fun v z => by rw [dd] at z; cases z⟩
  keep := fun i h h' st k => let ⟨oi, e, r⟩ := st; ⟨oi, k it (List.mem_singleton.mpr rfl) oi e, r⟩
  item := by
    rintro X rfl rfl rfl hc i pins s σ H E I hf st ⟨h1, h2⟩
    obtain ⟨f0, f1, f2, f3, f4, f5⟩ := hf it (List.mem_singleton.mpr rfl)
    have e0 : es[i]? = some es[i] := Array.getElem?_eq_getElem h2
    obtain ⟨x, rx⟩ := he i _ e0
    refine wpAny_pyNext_keys_item_raw st (rawOf I h1 hx hd) h2 fun h' st' sb => ?_
    obtain ⟨oi, e, c, dd⟩ := id st'
    exact ⟨_, rfl, go_of (s := { s with heap := h' }) e c dd (by decide) ⟨x, H, I.turned (t' := s.toks) (fun b ob hb e => (sb.2 b hb).trans e) f0 f1 f3 f4 f5, rx, ⟨rfl, _, e0, rx⟩, st', fun b hb => (hf b hb).1⟩⟩
  done := by
    rintro X rfl rfl rfl hc i pins s σ H E I hf st ⟨h1, h2⟩
    obtain ⟨f0, f1, f2, f3, f4, f5⟩ := hf it (List.mem_singleton.mpr rfl)
    exact wpAny_pyNext_keys_end_raw (I.ok.hd hc) st (rawOf I h1 hx hd) h2 fun h' eb => ⟨rfl, I.turned (t' := s.toks) (fun b ob hb e => eb b ob hb e) f0 f1 f3 f4 f5⟩
  self := fun A i s Q E st h => wpAny_pyIter_keyiter st h
theorem turnP {elts : List Expr} {kk : Nat} {tpos : Pos} (it : Addr) (hx : o.ExactDict) (hd : o.data = .dict es ep) (hv : EntV es) (hk : EntK es) :
    Turn P w K (.Tuple elts kk tpos) (ItP d o es) [it] it (fun i h => ∃ ok ov, IsItemIter h it d i es.size ep ok ov) where
  mem := List.mem_singleton.mpr rfl
  obj := fun i h ⟨ok, ov, e⟩ b hb => by
    rw [List.mem_singleton.mp hb]
    exact ⟨_, e, fun v z => nomatch z⟩
  keep := fun i h h' ⟨ok, ov, e⟩ k => ⟨ok, ov, k it (List.mem_singleton.mpr rfl) _ e⟩
  item := by
    rintro X rfl rfl rfl hc i pins s σ H E I hf ⟨ok, ov, st⟩ ⟨h1, h2⟩
    have e0 : es[i]? = some es[i] := Array.getElem?_eq_getElem h2
    obtain ⟨x, rx⟩ := hv i _ e0
    obtain ⟨y, ry⟩ := hk i _ e0
    have lt : it < s.heap.objs.size := Heap.lt_size st
    refine wpAny_pyNext_items_item_raw st (rawOf I h1 hx hd) h2 fun h' out hT hz kp => ⟨_, rfl, wpAny_letOwnedTupleGo_items (s := { s with heap := h' }) out fun h2' st' sb => ?_⟩
    have hT2 : h2'.get? s.heap.objs.size = some { cls := .type "tuple", data := .seq #[es[i].key, es[i].val] } := (sb.2 _ (Nat.ne_of_gt lt)).trans hT
    have new : ObjOk X.prog X.w (upd H s.heap.objs.size (.tup [y, x])) h2' s.heap.objs.size (.tup [y, x]) := ⟨by show 2 ≤ sizeLine; decide, _, .cons ry (.cons rx .nil), ⟨_, hT2, rfl, _, rfl⟩⟩
    have n0 := I.hok.fresh (Nat.le_refl s.heap.objs.size)
    have I1 : Inv X pins σ (upd H s.heap.objs.size (.tup [y, x])) { s with heap := h2' } :=
      I.turnedNew (t' := s.toks) (ch := [it]) (fun b ob hb e => (sb.2 b fun q => hb (List.mem_singleton.mpr q)).trans (kp b ob (fun q => hb (List.mem_singleton.mpr q)) e)) hf (Nat.le_refl _) new
    refine ⟨.ref s.heap.objs.size, _, I1, rfl, ⟨_, y, x, _, e0, ry, rx, rfl, n0, rfl⟩, ⟨_, _, st'⟩, fun b hb => ?_⟩
    rw [List.mem_singleton.mp hb, upd_ne (Nat.ne_of_lt lt)]
    exact (hf it (List.mem_singleton.mpr rfl)).1
  done := by
    rintro X rfl rfl rfl hc i pins s σ H E I hf ⟨ok, ov, st⟩ ⟨h1, h2⟩
    obtain ⟨f0, f1, f2, f3, f4, f5⟩ := hf it (List.mem_singleton.mpr rfl)
    exact wpAny_pyNext_items_end_raw (I.ok.hd hc) st (rawOf I h1 hx hd) h2 fun h' eb => ⟨rfl, I.turned (t' := s.toks) (fun b ob hb e => eb b ob hb e) f0 f1 f3 f4 f5⟩
  self := fun A i s Q E st h => let ⟨_, _, e⟩ := st; PySem.W.kcp_self e h
end
/-- what a walk over a known dict asks -/
structure DSrc (o : Obj) (d : Addr) (es : Array DictEntry) (H : Hp) : Prop where
  at_ : H d = some (objO d o)
  low : (d == sysModules) = false
  ex : o.ExactDict
  dat : ∃ ep, o.data = .dict es ep
  v : EntV es
  k : EntK es
def iDV (td : TE) : TI := fun σ H R => td σ H fun x H1 => ∃ d o es, x = .ref d ∧ DSrc o d es H1 ∧ R (ItV d o es) H1
def iDK (td : TE) : TI := fun σ H R => td σ H fun x H1 => ∃ d o es, x = .ref d ∧ DSrc o d es H1 ∧ R (ItK d o es) H1
def iDP (td : TE) : TI := fun σ H R => td σ H fun x H1 => ∃ d o es, x = .ref d ∧ DSrc o d es H1 ∧ R (ItP d o es) H1
section
variable {X : Cx} {tg e : Expr} {td : TE} {apos cpos : Pos}
theorem pi_dk (he : PE X e td) : PI X tg e (iDK td) := by
  refine ⟨fun pins s σ H R I h => thn (he.run pins s σ H _ I h) ?_⟩
  rintro u s1 ⟨x, H1, I1, rx, d, o, es, rfl, ⟨e1, low, hx, ⟨ep, hd⟩, hv, hk⟩, q⟩
  cases rx
  exact wpAny_pyIter_dict_raw low (rawOf I1 e1 hx hd) (pi_one (tk := s1.toks) I1 _ (turnK _ hx hd hk) ⟨_, Heap.get?_push_size _ rfl, rfl, rfl⟩ q)
theorem pi_dv (he : PE X e td) (hbase : attributeBase e "values" X.env (eval e X.env) = eval e X.env := by rfl) (hline : (apos.endLine == cpos.line) = true := by rfl) : PI X tg (.Call (.Attribute e "values" apos) [] [] cpos) (iDV td) := by
  refine ⟨fun pins s σ H R I h => wpAny_Call_method (T := "dict") (id := "dict.values") hbase rfl hline F.plainAttrs_dict F.slot_dict_values F.type_dict_values (thn (he.run pins s σ H _ I h) ?_)⟩
  rintro u s1 ⟨x, H1, I1, rx, d, o, es, rfl, ⟨e1, low, hx, ⟨ep, hd⟩, hv, hk⟩, q⟩
  cases rx
  have r := rawOf I1 e1 hx hd
  have I2 : Inv X pins σ H1 { s1 with heap := s1.heap.push { cls := .type "dict_values", data := .fields #[.ref d] } } := I1.kept (t' := s1.toks) fun b ob q => Heap.get?_push_of_some _ q
  refine ⟨r.typeIs, (fun b e => by cases e; exact ⟨o, objO_at I1 e1, hx.2.1⟩), ?_⟩
  refine method_meetsIn F.slot_dict_values F.entry_dict_values rfl (PySem.evalArgs_none ⟨rfl, r.typeIs, F.args_dict_values_1 _, _, meets_dict_values_raw d low, ⟨⟨es, ep, r⟩, ?_⟩⟩)
  exact wpAny_pyIter_values_raw ⟨_, Heap.get?_push_size _ rfl, rfl, rfl⟩ (r.push _) (pi_one (tk := s1.toks) I2 _ (turnV _ hx hd hv) ⟨_, Heap.get?_push_size _ rfl, rfl, rfl⟩ q)
theorem pi_dp {elts : List Expr} {kk : Nat} {tpos : Pos} (he : PE X e td) (hbase : attributeBase e "items" X.env (eval e X.env) = eval e X.env := by rfl) (hline : (apos.endLine == cpos.line) = true := by rfl) :
    PI X (.Tuple elts kk tpos) (.Call (.Attribute e "items" apos) [] [] cpos) (iDP td) := by
  refine ⟨fun pins s σ H R I h => wpAny_Call_method (T := "dict") (id := "dict.items") hbase rfl hline F.plainAttrs_dict F.slot_dict_items F.type_dict_items (thn (he.run pins s σ H _ I h) ?_)⟩
  rintro u s1 ⟨x, H1, I1, rx, d, o, es, rfl, ⟨e1, low, hx, ⟨ep, hd⟩, hv, hk⟩, q⟩
  cases rx
  have r := rawOf I1 e1 hx hd
  have I2 : Inv X pins σ H1 { s1 with heap := s1.heap.push { cls := .type "dict_items", data := .fields #[.ref d] } } := I1.kept (t' := s1.toks) fun b ob q => Heap.get?_push_of_some _ q
  refine ⟨r.typeIs, (fun b e => by cases e; exact ⟨o, objO_at I1 e1, hx.2.1⟩), ?_⟩
  refine method_meetsIn F.slot_dict_items F.entry_dict_items rfl (PySem.evalArgs_none ⟨rfl, r.typeIs, F.args_dict_items_1 _, _, meets_dict_items_raw d low, ⟨⟨es, ep, r⟩, ?_⟩⟩)
  exact wpAny_pyIter_items_raw ⟨_, Heap.get?_push_size _ rfl, rfl, rfl⟩ (r.push _) (pi_one (tk := s1.toks) I2 _ (turnP _ hx hd hv hk) ⟨.none, .none, Heap.get?_push_size _ rfl⟩ q)
end
end K3

set_option Elab.async false
set_option linter.all false
set_option maxRecDepth 100000
/-! Dict comprehensions into dicts whose object is known. -/
namespace K3
open PySem PySem.Spec PyProof.Rows L2

/-- D[y] = z by a comprehension: a tuple's key, or a whole number's -/
def DcPut (G : Gs) (D : Addr) (y z : V) (H : Hp) (Nx : Hp → Prop) : Prop :=
  (∃ k o xs ks vs d, IsK G H y k ∧ DDc G H D o xs ks vs ∧ DAt G H z d ∧ xs.length < sizeLine ∧ ∀ o' xs', DctOk G.P G.w D o' xs' → DEnt G H (dput ks vs k d).1 (dput ks vs k d).2 xs' → Nx (upd H D (objO D o'))) ∨
  ∃ i o kvs, y = .int i ∧ H D = some (objO D o) ∧ IDc G.P G.w D o kvs ∧ kvs.length < sizeLine ∧ ∀ o' u, RelV z u → IDc G.P G.w D o' (stored kvs i u) → Nx (upd H D (objO D o'))
theorem len_stored {kvs : List (Int × Value)} {k : Int} {v : Value} (h : kvs.length < sizeLine) : (stored kvs k v).length ≤ sizeLine := by
  unfold stored
  split
  · rw [List.length_map]; omega
  · rw [List.length_append]; simp; omega
theorem dcput_run {X : Cx} {C : Addr} {pins : List (Addr × Obj)} {σ : L2.St} {H : Hp} {s : Shared} {D : Addr} {y z : V} {u r : Value} {Nx : Hp → Prop} {E : Value → Shared → Prop} (hu : X.A.units + 64 < cLine) (I : Inv X pins σ H s) (p : DcPut (gs X C) D y z H Nx) (ry : RelV y u) (rz : RelV z r) :
    wpAny (model X.prog X.w) X.A (dictSet D u r) (fun _ s' => ∃ H', Inv X pins σ H' s' ∧ Nx H') E s := by
  rcases p with ⟨k, o, xs, ks, vs, d, ⟨hk, k1, k2, b, rfl⟩, ⟨h1, h2, h3⟩, hd, hz, q⟩ | ⟨i, o, kvs, rfl, h1, h2, hz, q⟩
  · cases ry
    refine wpAny_dictSet_heap (knd := nestedKind X.prog X.w) (hsz := h2.len) (nroom hu) ⟨DAt.nest I k1 hk rfl, k2⟩ (dofH I h1 h2 h3) fun h' dd' hs => ?_
    obtain ⟨o', e, ok⟩ := dct_new h2.low (len_storedH hz) dd'
    exact ⟨_, dct_write I h1 hs e, q o' _ ok (h3.put hk k1 k2 h2.nd hd rz)⟩
  · obtain ⟨t, rfl⟩ := ry
    refine wpAny_dictSet_pairs (knd := intKind X.prog X.w) (hsz := h2.len) (k := i) (by simp [intKind, Value.isInt]) (h2.at_ _ (objO_at I h1)) fun h' dd' hs => ?_
    obtain ⟨o', e, ok⟩ := idc_new h2.low (len_stored hz) dd'
    exact ⟨_, dct_write I h1 hs e, q o' r rz ok⟩

section
variable {X : Cx} {C : Addr}
/-- what a turn of the comprehension makes of the next state Nx -/
def dcTurn (G : Gs) (g : TG) (tt : TT) (tk tv : TE) (vs : List Nat) (σ : L2.St) (D : Addr) (Nx Kp : Hp → Prop) (x : V) (H' : Hp) : Prop :=
  g x (wipe σ vs) H' fun σ2 H2 => wipe σ2 vs = wipe σ vs ∧ tt σ2 H2 fun b H3 => if b = true then tk σ2 H3 fun y H4 => tv σ2 H4 fun z H5 => DcPut G D y z H5 Nx else Kp H3
/-- {k: v for target in iter if ..} -/
def tDcX (G : Gs) (wi : TI) (g : TG) (tt : TT) (tk tv : TE) (vs : List Nat) : TE := fun σ H Q => wi σ H fun J H1 => ∀ D, H1 D = none → (D == sysModules) = false → ∃ W : Nat → Nat → Hp → Prop, (∃ m, W 0 m (upd H1 D (objO D dct0))) ∧ ∀ i m H, W i m H →
  (J.stop i H ∧ Q (.ref D) H) ∨ (J.go i H ∧ ∃ Nx : Hp → Prop, (∀ H', Nx H' → ∃ m', m' < m ∧ W (i + 1) m' H') ∧ ∀ x H', J.yld i H x H' → dcTurn G g tt tk tv vs σ D Nx Nx x H')

/-- the block's parts are read in whatever block context -/
structure DcParts (X : Cx) (kx vx tg : Expr) (ifs : List Expr) (scope : Scope) (g : TG) (tt : TT) (tk tv : TE) : Prop where
  hg : ∀ (s : Shared) (H : Hp) (B : Addr) (cl : List (Str × Addr)) (fp : List Addr), PG (X.blk s H scope (compEnvC scope cl B X.env) fp) tg g
  ht : ∀ (s : Shared) (H : Hp) (B : Addr) (cl : List (Str × Addr)) (fp : List Addr), PTs (X.blk s H scope (compEnvC scope cl B X.env) fp) ifs tt
  hk : ∀ (s : Shared) (H : Hp) (B : Addr) (cl : List (Str × Addr)) (fp : List Addr), PE (X.blk s H scope (compEnvC scope cl B X.env) fp) kx tk
  hv : ∀ (s : Shared) (H : Hp) (B : Addr) (cl : List (Str × Addr)) (fp : List Addr), PE (X.blk s H scope (compEnvC scope cl B X.env) fp) vx tv

/-- one turn inside the block Y, up to the stored pair -/
theorem dc_turn {Y : Cx} {kx vx tg : Expr} {ifs : List Expr} {g : TG} {tt : TT} {tk tv : TE} {J : It} {fp : List Addr} {it D : Addr} {tn : Nat → Heap → Prop} {vs : List Nat} {σ : L2.St} (hu : Y.A.units + 64 < cLine) (hxe : ∀ e s, Y.xe e s → False) (hc : Y.calm = true) (pg : PG Y tg g) (pt : PTs Y ifs tt) (pk : PE Y kx tk) (pv : PE Y vx tv)
    (T : Turn Y.prog Y.w Y.K tg J fp it tn) (fin : ∀ {H : Hp} {s : Shared}, Inv Y [] (wipe σ vs) H s → (∀ b ∈ fp, H b = none) → ∀ b ∈ fp, FpOk Y [] H b) {H : Hp} {s : Shared} {i : Nat} {Nx : Hp → Prop} {E : Value → Shared → Prop} (I : Inv Y [] (wipe σ vs) H s) (st : tn i s.heap) (n : ∀ b ∈ fp, H b = none) (go : J.go i H)
    (step : ∀ x H', J.yld i H x H' → dcTurn (gs Y C) g tt tk tv vs σ D Nx Nx x H') {R : Shared → Prop} (hR : ∀ H' s', Inv Y [] (wipe σ vs) H' s' → tn (i + 1) s'.heap → (∀ b ∈ fp, H' b = none) → Nx H' → R s') :
    wpAny (model Y.prog Y.w) Y.A (pyNext (.ref it)) (fun r s1 => ∃ u, r = some u ∧ wpAny (model Y.prog Y.w) Y.A (letOwnedTupleGo tg (.ref it) u) (fun _ s2 => wpAny (model Y.prog Y.w) Y.A (assign tg Y.env u) (fun _ s3 =>
      wpAny (model Y.prog Y.w) Y.A (forIn ifs true fun c r => if r = true then do let ok ← isTrue c Y.env (eval c Y.env); pure (ForInStep.yield ok) else pure (ForInStep.yield r)) (fun ok s4 =>
        if ok = true then wpAny (model Y.prog Y.w) Y.A (eval kx Y.env) (fun a s5 => wpAny (model Y.prog Y.w) Y.A (eval vx Y.env) (fun b s6 => wpAny (model Y.prog Y.w) Y.A (dictSet D a b) (fun _ s7 => R s7) E s6) E s5) E s4
        else R s4) E s3) E s2) E s1) E s := by
  refine thn (T.item Y rfl rfl rfl hc i [] s _ H E I (fin I n) st go) ?_
  rintro r s1 ⟨u, rfl, h1⟩
  refine ⟨u, rfl, thn h1 ?_⟩
  rintro _ s2 ⟨x, H2, I2, rx, y2, st2, n2⟩
  have Ip := I2.pinned (fin I2 n2) (T.obj _ _ st2)
  -- behind the turn: the pins are dropped, the slots forgotten
  have out : ∀ {σ8 : L2.St} {H' : Hp} {s' : Shared}, wipe σ8 vs = wipe σ vs → Inv Y ([] ++ pinsAt fp s2.heap) σ8 H' s' → Nx H' → R s' := by
    intro σ8 H' s' hw I' nx
    have pin : ∀ b ∈ fp, ∀ o, s2.heap.get? b = some o → s'.heap.get? b = some o ∧ H' b = none := fun b hb o e =>
      let z := I'.pin (b, o) (List.mem_append_right _ (List.mem_append_right _ (mem_pinsAt hb e)))
      ⟨z.1, z.2.1⟩
    refine hR H' s' ((I'.unpinned (pins := [])).weak (by rw [← hw, wipe_length]) fun j v e => ?_) (T.keep _ _ _ st2 fun b hb o e => (pin b hb o e).1) (fun b hb => ?_) nx
    · rw [← hw] at e; exact (wipe_some e).1
    · obtain ⟨o, e, _⟩ := T.obj _ _ st2 b hb
      exact (pin b hb o e).2
  refine wpAny_mono (pg.run _ s2 _ H2 x u _ Ip rx (step x H2 y2)) ?_ (fun e s z => (hxe e s z).elim)
  rintro _ s3 ⟨σ3, H3, I3, hw, q3⟩
  refine wpAny_mono (pt.run _ s3 σ3 H3 _ I3 q3) ?_ (fun e s z => (hxe e s z).elim)
  rintro b s4 ⟨H4, I4, q4⟩
  cases b with
  | false => exact out hw I4 q4
  | true =>
    refine wpAny_mono (pk.run _ s4 σ3 H4 _ I4 q4) ?_ (fun e s z => (hxe e s z).elim)
    rintro a s5 ⟨yk, H5, I5, rk, q5⟩
    refine wpAny_mono (pv.run _ s5 σ3 H5 _ I5 q5) ?_ (fun e s z => (hxe e s z).elim)
    rintro b s6 ⟨yv, H6, I6, rv, q6⟩
    refine thn (dcput_run hu I6 q6 rk rv) ?_
    rintro _ s7 ⟨H7, I7, q7⟩
    exact out hw I7 q7

theorem dcx_core {pins : List (Addr × Obj)} {s : Shared} {σ : L2.St} {H : Hp} {Q : VK} {kx vx tg iter : Expr} {ifs : List Expr} {scope : Scope} {own : List (Str × Nat)} {pos pos' : Pos} {wi : TI} {g : TG} {tt : TT} {tk tv : TE} {use : Option (Value → Sem Unit)} {Qf : Value → Shared → Prop}
    (hu : X.A.units + 64 < cLine) (hc : X.calm = true) (hN : X.N.Nodup) (I : Inv X pins σ H s) (hi : PI X tg iter wi) (ok : BlkOk X.N X.env.scope scope own) (p : DcParts X kx vx tg ifs scope g tt tk tv) (hs : ∀ x, foldedSetIterable iter X.env x = pure x)
    (h : tDcX (gs X C) wi g tt tk tv (own.map (·.2)) σ H Q)
    (out : ∀ D B s' m H', Inv X pins σ H' s' → Q (.ref D) H' → s'.heap.Ns B m → FpOk X pins H' B → compPost (model X.prog X.w) X.A X.xe use Qf (.ref D) B (.ok .next) s') :
    wpAny (model X.prog X.w) X.A (comprehension (.DictComp kx vx [⟨tg, iter, ifs, 0⟩] scope pos) scope X.env pos' newDict false (eval iter X.env) use) Qf X.xe s := by
  have seen : ∀ y ∈ scope.names, y.2 = .free → ∃ c, X.env.cells.lookup y.1 = some c := fun y hy e => I.ok.has _ (ok.free y hy e)
  refine wpAny_comprehension_free (use := use) rfl hs (closure_ok seen) ok.kind (fun y hy e => by rw [ok.uniq y hy, e]) (thn (hi.run pins s σ H _ I h) fun xv s1 hx => thn hx ?_)
  rintro itv s2 ⟨it, fp, tn, J, H2, rfl, I2, T, st2, f2, q⟩
  refine wpAny_newObj_type (newEnv_comp ?_)
  -- the new dict, at the heap's end
  have n2 : H2 s2.heap.objs.size = none := I2.hok.fresh (Nat.le_refl _)
  obtain ⟨W, ⟨m0, w0⟩, turn⟩ := q _ n2 (low_new I2)
  generalize hD : s2.heap.objs.size = D at n2 w0 turn ⊢
  generalize hs3 : ({ s2 with heap := s2.heap.push { cls := .type "dict", data := .dict #[] } } : Shared) = s3
  have h3 : s3.heap = s2.heap.push dct0 := by rw [← hs3]; rfl
  have kp3 : ∀ b o, s2.heap.get? b = some o → s3.heap.get? b = some o := fun b o e => by rw [h3]; exact Heap.get?_push_of_some _ e
  have I3 : Inv X pins σ (upd H2 D (objO D dct0)) s3 := by
    rw [← hs3]
    exact I2.laid (t' := s2.toks) (fun b o e => Heap.get?_push_of_some _ e) (Nat.le_of_eq hD) (objOk (by rw [← hD]; exact Heap.get?_push_size _ rfl))
  have old : ∀ b ∈ fp, b < s2.heap.objs.size := fun b hb => let ⟨o, e, _⟩ := T.obj _ _ st2 b hb; Heap.lt_size e
  have f3 : ∀ b ∈ fp, FpOk X pins (upd H2 D (objO D dct0)) b ∧ b < s3.heap.objs.size := fun b hb => by
    have lt := old b hb
    have ne : b ≠ D := by rw [← hD]; exact Nat.ne_of_lt lt
    refine ⟨⟨?_, (f2 b hb).2⟩, by rw [h3, Heap.size_push]; exact Nat.lt_succ_of_lt lt⟩
    rw [upd_ne ne]
    exact (f2 b hb).1
  have I4 := block_start I3 ok hN f3
  have pg := p.hg s3 (upd H2 D (objO D dct0)) s3.heap.objs.size (cellsFrom (s3.heap.objs.size + 1) scope.names (cloFrom X.env.cells scope.names [])) fp
  have pt := p.ht s3 (upd H2 D (objO D dct0)) s3.heap.objs.size (cellsFrom (s3.heap.objs.size + 1) scope.names (cloFrom X.env.cells scope.names [])) fp
  have pk := p.hk s3 (upd H2 D (objO D dct0)) s3.heap.objs.size (cellsFrom (s3.heap.objs.size + 1) scope.names (cloFrom X.env.cells scope.names [])) fp
  have pv := p.hv s3 (upd H2 D (objO D dct0)) s3.heap.objs.size (cellsFrom (s3.heap.objs.size + 1) scope.names (cloFrom X.env.cells scope.names [])) fp
  show codeAny _ _ (.compStart (.DictComp kx vx [⟨tg, iter, ifs, 0⟩] scope pos) 0 (.ref it) (.ref D) (compEnvC scope (cellsFrom (s3.heap.objs.size + 1) scope.names (cloFrom X.env.cells scope.names [])) s3.heap.objs.size X.env)) (compPost (model X.prog X.w) X.A X.xe use Qf (.ref D) s3.heap.objs.size) { s3 with heap := pushCells (s3.heap.push { cls := .type "dict", data := .dict #[] }) scope.names }
  generalize hce : compEnvC scope (cellsFrom (s3.heap.objs.size + 1) scope.names (cloFrom X.env.cells scope.names [])) s3.heap.objs.size X.env = ce at I4 pg pt pk pv ⊢
  have loc : ce.locals = s3.heap.objs.size := by rw [← hce]; rfl
  generalize hH3 : upd H2 D (objO D dct0) = H3 at I3 I4 pg pt pk pv w0 f3
  generalize hs4 : ({ s3 with heap := pushCells (s3.heap.push { cls := .type "dict", data := .dict #[] }) scope.names } : Shared) = s4 at I4 ⊢
  have st4 : tn 0 s4.heap := T.keep _ _ _ st2 fun b _ o e => by rw [← hs4]; exact pushCells_keeps _ _ _ _ (Heap.get?_push_of_some _ (kp3 b o e))
  have fin : ∀ {H' : Hp} {s' : Shared}, Inv (X.blk s3 H3 scope ce fp) [] (wipe σ (own.map (·.2))) H' s' → (∀ b ∈ fp, H' b = none) → ∀ b ∈ fp, FpOk (X.blk s3 H3 scope ce fp) [] H' b := fun I' n b hb =>
    ⟨n b hb, (I'.ok.exf b hb).1, I'.ok.exfs b hb, .inl hb, fun x c e => (I'.ok.exf b hb).2 x c e, fun p hp => by cases hp⟩
  have loop : codeAny (model X.prog X.w) X.A (.compLoop (.DictComp kx vx [⟨tg, iter, ifs, 0⟩] scope pos) 0 (.ref it) (.ref D) ce) (compPost (model X.prog X.w) X.A X.xe use Qf (.ref D) s3.heap.objs.size) s4 := by
    refine compLoop_anyD (fun n s' => ∃ i H', Inv (X.blk s3 H3 scope ce fp) [] (wipe σ (own.map (·.2))) H' s' ∧ tn i s'.heap ∧ (∀ b ∈ fp, H' b = none) ∧ W i n H') ?_ m0 ⟨0, H3, I4, st4, fun b hb => (f3 b hb).1.1, w0⟩
    rintro n s5 ⟨i, H5, I5, st5, n5, w5⟩
    rcases turn i n H5 w5 with ⟨stop, done⟩ | ⟨go, Nx, hNx, step⟩
    · refine thnF (T.done (X.blk s3 H3 scope ce fp) rfl rfl rfl hc i [] s5 _ H5 (fun _ _ => False) I5 (fin I5 n5) st5 stop) ?_
      rintro r s6 ⟨rfl, I6⟩
      have I7 : Inv X pins σ H5 s6 := I3.call' (ch := fp) I6.os I6.base I6.hok I6.bare fun b hb =>
        let ⟨z1, z2, z3, z4, z5, z6⟩ := (f3 b hb).1; ⟨z4, z2, z5, z6⟩
      obtain ⟨m, hn, _⟩ := I6.loc
      have nB : H5 ce.locals = none := I6.free
      have hn' : s6.heap.Ns ce.locals m := hn
      rw [loc] at nB hn'
      exact out D s3.heap.objs.size s6 m H5 I7 done hn' (I3.fpOk (Nat.le_refl _) nB)
    · refine wpAny_mono (dc_turn (Y := X.blk s3 H3 scope ce fp) (C := C) (R := fun s' => ∃ m, m < n ∧ ∃ i H', Inv (X.blk s3 H3 scope ce fp) [] (wipe σ (own.map (·.2))) H' s' ∧ tn i s'.heap ∧ (∀ b ∈ fp, H' b = none) ∧ W i m H') (E := fun _ _ => False)
        hu (fun _ _ z => z) hc pg pt pk pv T fin I5 st5 n5 go step (fun H' s' I' st' n' nx => ?_)) ?_ (fun _ _ z => False.elim z)
      · obtain ⟨m', hm, w'⟩ := hNx H' nx
        exact ⟨m', hm, i + 1, H', I', st', n', w'⟩
      · rintro r s6 ⟨u, rfl, h6⟩
        refine thnF h6 fun _ s7 h7 => thnF h7 fun _ s8 h8 => thnF h8 fun ok s9 h9 => ?_
        cases ok with
        | false => exact h9
        | true => exact thnF h9 fun a s10 h10 => thnF h10 fun b s11 h11 => thnF h11 fun _ _ q => q
  exact codeAny_compStart_dict loop (T.self X.A 0 _ _ _ st4 loop)
theorem pe_dcx {kx vx tg iter : Expr} {ifs : List Expr} {scope : Scope} {own : List (Str × Nat)} {pos : Pos} {wi : TI} {g : TG} {tt : TT} {tk tv : TE} (hu : X.A.units + 64 < cLine) (hc : X.calm = true) (hN : X.N.Nodup) (hi : PI X tg iter wi) (ok : BlkOk X.N X.env.scope scope own) (p : DcParts X kx vx tg ifs scope g tt tk tv)
    (hs : ∀ x, foldedSetIterable iter X.env x = pure x := by intro _; rfl) : PE X (.DictComp kx vx [⟨tg, iter, ifs, 0⟩] scope pos) (tDcX (gs X C) wi g tt tk tv (own.map (·.2))) := by
  refine ⟨fun pins s σ H Q I h => ?_⟩
  rw [arm_eval_DictComp]
  refine dcx_core hu hc hN I hi ok p hs h ?_
  rintro D B s' m H' I' q hn ⟨f0, f1, f2, f3, f4, f5⟩
  exact ⟨m, hn, fun h'' sb => ⟨.ref D, H', I'.turned (t' := s'.toks) (fun b o hb e => (sb.2 b hb).trans e) f0 f1 f3 f4 f5, rfl, q⟩⟩
end
end K3

set_option Elab.async false
set_option linter.all false
set_option maxRecDepth 100000
/-! match on written texts; enumerate of a tuple; tuples put together. -/
namespace K3
open PySem PySem.Spec PyProof.Rows L2

/-! ### match e: case "..": .. -/
/-- the cases of a match, by the subject's value -/
structure PM (X : Cx) (cases : List MatchCase) (t : V → TS) : Prop where
  run : ∀ (first : Bool) (pins : List (Addr × Obj)) (s : Shared) (σ : L2.St) (H : Hp) (D : Ends) (v : V) (u : Value), Inv X pins σ H s → RelV v u → t v D σ H → wpAny (model X.prog X.w) X.A (matchCases cases X.env u first) (SP X pins D) X.xe s
def tM (te : TE) (t : V → TS) : TS := fun D σ H => te σ H fun v H1 => t v D σ H1
/-- a text y against the written text x -/
def tCase (x : Str) (tb : TS) (tr : V → TS) : V → TS := fun v D σ H => ∃ y, v = .str y ∧ if y = x then tb D σ H else tr v D σ H
section
variable {X : Cx}
theorem pm_nil : PM X [] (fun _ => tNext) := ⟨fun first pins s σ H D v u I r h => wpAny_matchCases_nil ⟨σ, H, I, h⟩⟩
theorem pm_str {x : Str} {k : Nat} {p p' : Pos} {body : List Stmt} {rest : List MatchCase} {tb : TS} {tr : V → TS} (hb : PSs X body tb) (hr : PM X rest tr) :
    PM X (⟨.MatchValue (.Constant (.str x) k p) p', none, body⟩ :: rest) (tCase x tb tr) := by
  refine ⟨fun first pins s σ H D v u I r h => wpAny_matchCases_cons (wpAny_matchPattern_Value (Calls.Constant_str ?_))⟩
  obtain ⟨y, rfl, h⟩ := h
  obtain ⟨t, rfl⟩ := r
  refine eq_str (wpAny_truthy_bool ?_)
  have I1 : Inv X pins σ H { s with toks := s.toks + 1 } := I.tok _
  by_cases e : y = x
  · rw [if_pos e] at h
    rw [if_pos (beq_iff_eq.mpr e)]
    exact wpAny_assignInOrder_none (hb.run pins _ σ H D I1 h)
  · rw [if_neg e] at h
    rw [if_neg (fun q => e (beq_iff_eq.mp q))]
    exact hr.run false pins _ σ H D (.str y) _ I1 ⟨t, rfl⟩ h
theorem ps_match {e : Expr} {cases : List MatchCase} {pos : Pos} {te : TE} {t : V → TS} (he : PE X e te) (hm : PM X cases t) : PS X (.Match e cases pos) (tM te t) :=
  ⟨fun pins s σ H D I h => wpAny_Match (thn (he.run pins s σ H _ I h) fun u s1 ⟨v, H1, I1, r, q⟩ => hm.run true pins s1 σ H1 D v u I1 r q)⟩
end

/-! ### enumerate(t), t a tuple -/
theorem meets_enum1 {v : Value} {o : Obj} {Hh : Heap → Prop} (B : Begins v o Hh) :
    Meets (Builtin.«enumerate.__new__» ⟨[.type "enumerate", v], []⟩) (fun _ R s => Hh s.heap ∧
      R (.ok (.ret (.ref (s.heap.push o).objs.size))) { s with heap := (s.heap.push o).push { cls := .type "enumerate", data := .fields #[.none, .bool false, .ref s.heap.objs.size, rawInt 0, .none, .none] } }) :=
  .of_wp fun prog w A R s h => by
    obtain ⟨hp, g, d, tk, os⟩ := s
    obtain ⟨h1, h⟩ := h
    have hsub := sub_enumerate
    have it_ : ∀ {A' : Around} {E : Value → Shared → Prop} {Q : Value → Shared → Prop}, Q (.ref hp.objs.size) ⟨hp.push o, g, d, tk, os⟩ → wpAny (model prog w) A' (pyIter v) Q E ⟨hp, g, d, tk, os⟩ :=
      fun q => B.iter prog w _ _ ⟨hp, g, d, tk, os⟩ _ h1 q
    wp_walk using it_
    refine wpAny_stack_any fun st => wpAny_pure ?_
    split
    · rename_i c _ _ _ _ _
      cases (c == Value.type "enumerate") <;> (wp_walk using it_; exact ⟨_, rfl, h⟩)
    · wp_walk using it_
      exact ⟨_, rfl, h⟩
theorem call_enum1 {prog : Program} {w : World} {A : Around} {E : Value → Shared → Prop} {s : Shared} {v : Value} {o : Obj} {Hh : Heap → Prop} {Q : Value → Shared → Prop} (B : Begins v o Hh) (h1 : Hh s.heap)
    (h : ∀ h', IsEnum h' (s.heap.objs.size + 1) s.heap.objs.size 0 .none → h'.get? s.heap.objs.size = some o → (∀ b o, s.heap.get? b = some o → h'.get? b = some o) → Q (.ref (s.heap.objs.size + 1)) { s with heap := h' }) :
    wpAny (model prog w) A (call (.type "enumerate") [v]) Q E s := by
  refine callType_new F.called_enumerate (by decide) (F.typeCall_enumerate_1 _) (F.newCall_enumerate_1 _) (fun obj => F.args_object_init_2 obj _) F.entry_enumerate_new (meets_enum1 B) ⟨h1, ?_⟩
  have z1 : (s.heap.push o).objs.size = s.heap.objs.size + 1 := Heap.size_push ..
  have he : IsEnum ((s.heap.push o).push { cls := .type "enumerate", data := .fields #[.none, .bool false, .ref s.heap.objs.size, rawInt 0, .none, .none] }) (s.heap.objs.size + 1) s.heap.objs.size 0 .none := by
    have q := Heap.get?_push_size (s.heap.push o) (o := { cls := .type "enumerate", data := .fields #[.none, .bool false, .ref s.heap.objs.size, rawInt 0, .none, .none] }) rfl
    rw [z1] at q
    exact q
  rw [z1]
  exact ⟨⟨_, he, rfl⟩, h _ he (Heap.get?_push_of_some _ (Heap.get?_push_size _ B.free)) fun b o x => Heap.get?_push_of_some _ (Heap.get?_push_of_some _ x)⟩
/-- the tuple at a, each item with its place in a new pair -/
def ItE (K : PySem.W.Frag) (a : Addr) : It :=
  ⟨fun i H => ∃ (xs : List V) (x : V), SqT K H a xs ∧ xs[i]? = some x, fun i H v H' => ∃ T x, v = .ref T ∧ H T = none ∧ H' = upd H T (.tup [.int (i : Nat), x]) ∧ ∀ xs, SqT K H a xs → xs[i]? = some x, fun i H => ∃ xs : List V, SqT K H a xs ∧ xs.length = i⟩
theorem turnE {P : Program} {w : World} {K : PySem.W.Frag} {elts : List Expr} {kk : Nat} {tpos : Pos} (a e it : Addr) (hei : e ≠ it) (hae : a ≠ e) (hai : a ≠ it) :
    Turn P w K (.Tuple elts kk tpos) (ItE K a) [e, it] e (fun i h => (∃ old, IsEnum h e it ((i : Nat) : Int) old) ∧ h.IsTupleIter it a i) where
  mem := List.mem_cons_self
  obj := fun i h ⟨⟨old, he⟩, ⟨o, ho, hc, hd⟩⟩ b hb => by
    rcases List.mem_cons.mp hb with z | z
    · rw [z]; exact ⟨_, he, fun v q => nomatch q⟩
    · rw [List.mem_singleton.mp z]; exact ⟨o, ho, fun v q => by rw [hd] at q; cases q⟩
  keep := fun i h h' ⟨⟨old, he⟩, hi⟩ k => ⟨⟨old, k e List.mem_cons_self _ he⟩, hi.at fun o q => k it (by simp) o q⟩
  item := by
    rintro X rfl rfl rfl hc i pins s σ H E I hf ⟨⟨old, he⟩, hit⟩ ⟨xs, x, hq, hx⟩
    obtain ⟨its, rv, p, hz⟩ := I.tuple hq
    obtain ⟨u, hu, ru⟩ := rv.get hx
    have hlt : i < its.toArray.size := by simpa using (List.getElem?_eq_some_iff.mp hu).1
    have W := WalksT.enumerateD (prog := X.prog) (w := X.w) (A := X.A) (Draws.tuple (A := X.A.in1) (I.ok.hd hc) it a hai its.toArray) e hei (by simp [hei, Ne.symm hae]) (by simp)
    have hel : e < s.heap.objs.size := Heap.lt_size he
    have hil : it < s.heap.objs.size := by obtain ⟨_, q, _⟩ := hit; exact Heap.lt_size q
    refine W.item i s _ E hlt ⟨⟨old, he⟩, hit, p⟩ fun T vals h' tk ⟨t, y, hy, ev⟩ hT hTup mid kp => ⟨_, rfl, W.go elts kk tpos i T { s with heap := h', toks := tk } _ E mid fun h2 st2 kp2 => ?_⟩
    subst ev
    have ey : y = u := by
      have : its[i]? = some y := by simpa using hy
      rw [this] at hu; cases hu; rfl
    subst ey
    have hTe : T ∉ [e, it] := W.apart i T h' mid
    obtain ⟨oT, g1, g2, nT, g3⟩ := hTup
    have new : ObjOk X.prog X.w (upd H T (.tup [.int (i : Nat), x])) h2 T (.tup [.int (i : Nat), x]) :=
      ⟨by show 2 ≤ sizeLine; decide, [.int i t, y], .cons ⟨_, rfl⟩ (.cons ru .nil), ⟨oT, kp2 T oT hTe g1, g2, nT, g3⟩⟩
    have I1 : Inv X pins σ (upd H T (.tup [.int (i : Nat), x])) { s with heap := h2, toks := tk } :=
      I.turnedNew (ch := [e, it]) (fun b ob hb q => kp2 b ob hb (kp b ob hb q)) hf hT new
    have hTn : H T = none := I.hok.fresh hT
    refine ⟨.ref T, _, I1, rfl, ⟨T, x, rfl, hTn, rfl, fun ys hy => by rw [I.tuple_inj hy hq]; exact hx⟩, ⟨st2.1, st2.2.1⟩, fun b hb => ?_⟩
    have ne : b ≠ T := fun q => hTe (q ▸ hb)
    rw [upd_ne ne]
    exact (hf b hb).1
  done := by
    rintro X rfl rfl rfl hc i pins s σ H E I hf ⟨⟨old, he⟩, hit⟩ ⟨xs, hq, hx⟩
    obtain ⟨its, rv, p, hz⟩ := I.tuple hq
    obtain ⟨f0, f1, f2, f3, f4, f5⟩ := hf it (by simp)
    have l := rv.length
    have ei : i = its.toArray.size := by rw [List.size_toArray]; omega
    have st : (fun i h => h.IsTupleIter it a i ∧ h.IsTuple a its.toArray) its.toArray.size s.heap := ⟨ei ▸ hit, p⟩
    exact wpAny_pyNext_enum_endD (Draws.tuple (prog := X.prog) (w := X.w) (A := X.A.in1) (I.ok.hd hc) it a hai its.toArray) he st fun h' eb => ⟨rfl, I.turned (t' := s.toks) (fun b o hb q => eb b o hb q) f0 f1 f3 f4 f5⟩
  self := fun A i s Q E ⟨⟨_, he⟩, _⟩ h => wpAny_pyIter_enum he h
def iEnT (K : PySem.W.Frag) (ta : TA) : TI := fun σ H R => ta σ H fun vs H1 => ∃ a xs, vs = [.ref a] ∧ SqT K H1 a xs ∧ R (ItE K a) H1
theorem pi_enT {X : Cx} {e : Expr} {ta : TA} {p pos tpos : Pos} {elts : List Expr} {kk : Nat} (hg : Gl X "enumerate") (hm : X.mg "enumerate" = none) (ha : PA X [e] ta) (hs : starEach [e] X.env = [(false, eval e X.env)] := by rfl) :
    PI X (.Tuple elts kk tpos) (.Call (.Name "enumerate" p) [e] [] pos) (iEnT X.K ta) := by
  refine ⟨fun pins s σ H R I h => Call_ (ld_blt I hg hm boot_enumerate (PyProof.Rows.callWith_type1 (thn (ha.run pos pins s σ H _ I h) ?_) hs rfl))⟩
  rintro us s1 ⟨vs, H1, I1, r1, a, xs, rfl, hq, q⟩
  obtain ⟨u, rfl, ru⟩ := vals1 r1
  cases ru
  obtain ⟨its, rv, p', hz⟩ := I1.tuple hq
  have la : a < s1.heap.objs.size := by obtain ⟨_, e, _⟩ := p'; exact Heap.lt_size e
  refine call_enum1 (begins_tuple a its.toArray) p' fun h' he hit hk => wpAny_pyIter_enum he ?_
  have I2 : Inv X pins σ H1 { s1 with heap := h' } := I1.kept (t' := s1.toks) hk
  refine ⟨s1.heap.objs.size + 1, [s1.heap.objs.size + 1, s1.heap.objs.size], _, _, H1, rfl, I2, turnE a (s1.heap.objs.size + 1) s1.heap.objs.size (Nat.succ_ne_self _) (Nat.ne_of_lt (Nat.lt_succ_of_lt la)) (Nat.ne_of_lt la), ⟨⟨.none, he⟩, ⟨_, hit, rfl, rfl⟩⟩, fun b hb => ?_, q⟩
  have hle : s1.heap.objs.size ≤ b := by
    rcases List.mem_cons.mp hb with z | z
    · rw [z]; exact Nat.le_succ _
    · rw [List.mem_singleton.mp z]; exact Nat.le_refl _
  exact I1.fpOk hle (I1.hok.fresh hle)

/-! ### t + u, t empty; t * 1 -/
theorem cat_nil {prog : Program} {w : World} {A : Around} {E : Value → Shared → Prop} {s : Shared} {t b : Addr} {ws : List Value} {Q : Value → Shared → Prop} (ht : IsTup s.heap t #[]) (hb : IsTup s.heap b ws.toArray) (h : Q (.ref b) s) : wpAny (model prog w) A (binaryOp .Add (.ref t) (.ref b)) Q E s := by
  obtain ⟨⟨c1, d1, t1, l1⟩, ho, hc, n, hd⟩ := ht
  obtain ⟨⟨c2, d2, t2, l2⟩, ho2, hc2, n2, hd2⟩ := hb
  simp only at hc hd hc2 hd2
  subst hc hd hc2 hd2
  exact concat_meets ⟨_, ho, rfl⟩ ⟨_, ho2, rfl⟩ noFill_tuple_add seq_tuple_add F.slot_tuple_add F.entry_tuple_add (F.args_tuple_add_2 _ _) (tuple_addW0 t b #[] ws.toArray n n2 d1 d2 l1 l2 rfl) ⟨ho, ho2, h⟩
/-- t + u: data put together -/
def rCatD (K : PySem.W.Frag) : R2 := fun x y H Q => ∃ a b xs ys, x = .ref a ∧ y = .ref b ∧ SqT K H a xs ∧ SqT K H b ys ∧ xs.length + ys.length ≤ sizeLine ∧ ∀ p H', Same H H' → SqT K H' p (xs ++ ys) → Q (.ref p) H'
theorem op_catD {X : Cx} : OpR X (binaryOp .Add) (rCatD X.K) := by
  intro pins s σ H x y v u Q I rx ry h
  obtain ⟨a, b, xs, ys, rfl, rfl, ha, hb, hz, q⟩ := h
  by_cases e : xs = []
  · subst e
    cases rx
    cases ry
    obtain ⟨its, r1, p1, _⟩ := I.tuple ha
    obtain ⟨its2, r2, p2, _⟩ := I.tuple hb
    cases r1
    exact cat_nil p1 p2 ⟨.ref b, H, I, rfl, q b H (Same.refl H) hb⟩
  · refine op_catT pins s σ H (.ref a) (.ref b) v u Q I rx ry ⟨a, b, xs, ys, rfl, rfl, ha, hb, e, hz, fun e2 => ?_, fun _ p hp => q p _ (Same.new hp) (SqT.of upd_same)⟩
    subst e2
    exact q a H (Same.refl H) (by rw [List.append_nil]; exact ha)
theorem tuple_mul1 (l : Addr) (items : Array Value) (n : Nat) (dd : Option Addr) (sl : Array (Option Value)) (u : Tok) :
    Meets (Builtin.«tuple.__mul__» ⟨[.ref l, .int 1 u], []⟩) (fun _ R s => s.heap.get? l = some { cls := .type "tuple", dict := dd, data := .seq items n, slots := sl } ∧ R (.ok (.ret (Value.ref l))) s) :=
  .of_wp fun prog w A R s h => by
    obtain ⟨hp, g, d, tk, os⟩ := s
    obtain ⟨hl, h⟩ := h
    have f1 := AutoSeq1.idx_int
    have c0 : (decide ((1 : Int) < -(2 ^ 63)) || decide ((1 : Int) ≥ 2 ^ 63)) = false := by decide
    have c1 : (items.isEmpty || (1 : Int) == 1) = true := by simp
    wp_walk using AutoSeq1.wpAny_loadPart' hl
    exact ⟨_, rfl, h⟩
/-- (x, ..) * k, k from 1 to 1000 -/
def rRepD (K : PySem.W.Frag) : R2 := fun x y H Q => ∃ l k xs, x = .ref l ∧ y = .int k ∧ SqT K H l xs ∧ xs ≠ [] ∧ 1 ≤ k ∧ k ≤ 1000 ∧ xs.length ≤ 1000 ∧ ∀ p H', Same H H' → SqT K H' p (List.replicate k.toNat xs).flatten → Q (.ref p) H'
theorem op_repD {X : Cx} : OpR X (binaryOp .Mult) (rRepD X.K) := by
  intro pins s σ H x y v u Q I rx ry h
  obtain ⟨l, k, xs, rfl, rfl, hT, hne, h1, h2, hz, q⟩ := h
  by_cases e : k = 1
  · subst e
    cases rx
    obtain ⟨t, rfl⟩ := ry
    obtain ⟨its, r, ⟨⟨cls, dd, data, sl⟩, ho, hc, n, hd⟩, hs⟩ := I.tuple hT
    simp only at hc hd
    subst hc hd
    refine wpAny_binaryOp_repeat_ref (T := "tuple") (U := "int") (by decide) ⟨_, ho, rfl⟩ (fun s' => typeIs_int s' 1 t) L2.noFill_tuple_mul F.fills_int_mul F.slot_int_rmul repeat_tuple F.slot_int_index.lookup
      (call_meets F.slot_int_rmul (typeIs_int s 1 t) F.entry_int_rmul (F.args_int_rmul_2 _ _) (int_rmul_tuple 1 t l its.toArray n dd sl)
        ⟨ho, rfl, ⟨_, ho, rfl⟩, call_meets F.slot_tuple_mul ⟨_, ho, rfl⟩ F.entry_tuple_mul (F.args_tuple_mul_2 _ _) (tuple_mul1 l its.toArray n dd sl t) ⟨ho, ?_⟩⟩)
    exact ⟨.ref l, H, I, rfl, q l H (Same.refl H) (by simpa using hT)⟩
  · exact op_repT pins s σ H (.ref l) (.int k) v u Q I rx ry ⟨l, k, xs, rfl, rfl, hT, hne, by omega, h2, hz, fun p hp => q p _ (Same.new hp) (SqT.of upd_same)⟩
end K3

set_option Elab.async false
set_option linter.all false
set_option maxRecDepth 100000
set_option maxHeartbeats 2000000
/-! The head's facts, defs told by their addresses. -/
namespace K3
open PySem PySem.Spec PyProof.Rows L2 He

/-- a def of the text: where it stands, its names, its statement, its keyword-only defaults -/
structure DefM where
  adr : PySem.W.Frag → Addr
  name : Str
  qual : Str
  st : Stmt
  kwd : List (Str × V) := []
def fdOf (K : PySem.W.Frag) (a : Addr) : Option FuncData := match K.lookup a with
  | some ⟨_, _, .func fd, _⟩ => some fd
  | _ => none
def fnAt (K : PySem.W.Frag) (a : Addr) : FnW := (fdOf K a).map fun fd => (fd.name, fd.qualname, fd.params, fd.body, fd.scope, fd.globals, fd.closure, fd.builtins)
def DefM.val (d : DefM) : FnW := some (d.name, d.qual, defArgs d.st, .stmts (defBody d.st), defScope d.st, mainGlobals, [], builtinsNs)
def DefM.ok (K : PySem.W.Frag) (d : DefM) : Bool := PySem.W.keepIn K (.ref (d.adr K)) && (match fdOf K (d.adr K) with
  | some fd => PySem.W.codeIn K fd.code d.qual && (dflB K fd.defaults [] && kwdB K fd.kwdefaults d.kwd)
  | none => false)
abbrev FunM (K : PySem.W.Frag) (d : DefM) (fd : FuncData) : Prop := FunD K d.name d.qual (defArgs d.st) (defBody d.st) (defScope d.st) [] d.kwd (d.adr K) fd
theorem fdOf_some {K : PySem.W.Frag} {a : Addr} {fd : FuncData} (h : fdOf K a = some fd) : ∃ oc od osl, K.lookup a = some ⟨oc, od, .func fd, osl⟩ := by
  unfold fdOf at h
  split at h
  · rename_i oc od fd' osl e
    cases h
    exact ⟨oc, od, osl, e⟩
  · cases h
theorem DefM.fun_ {K : PySem.W.Frag} {d : DefM} (e : fnAt K (d.adr K) = d.val) (c : d.ok K = true) : ∃ fd, FunM K d fd := by
  obtain ⟨kp, c⟩ := ba c
  unfold fnAt at e
  cases q : fdOf K (d.adr K) with
  | none => rw [q] at c; cases c
  | some fd =>
    rw [q] at c e
    obtain ⟨oc, od, osl, lk⟩ := fdOf_some q
    obtain ⟨k1, k2⟩ := ba c
    obtain ⟨k3, k4⟩ := ba k2
    obtain ⟨n1, n2, n3, n4, n5, n6, n7, n8, n9, n10, n11, n12, n13, n14, n15⟩ := fd
    simp only [Option.map_some, DefM.val, Option.some.injEq, Prod.mk.injEq] at e
    obtain ⟨rfl, rfl, rfl, rfl, rfl, rfl, rfl, rfl⟩ := e
    exact ⟨_, ⟨oc, od, n8, n9, n10, n11, n12, n13, n14, osl, rfl, lk, k1, dflB_ok k3, kwdB_ok k4⟩, kp⟩
/-- a property's getter -/
def gtA (K : PySem.W.Frag) (x f : Str) : Addr := match PySem.W.recIn K (ma K (ga K x) f) "property" with
  | some (.ref g :: _) => g
  | _ => 0
def propB (K : PySem.W.Frag) (x f : Str) : Bool := eqO (PySem.W.findIn K (.ref (ga K x)) f) (some (some (.ref (ma K (ga K x) f)))) &&
  (eqO (PySem.W.specialIn K (.ref (ma K (ga K x) f)) "__get__") (some (some (.builtin "property.__get__"))) && (decide (PySem.W.takesIn K (.ref (ma K (ga K x) f)) = some true) &&
    (match PySem.W.recIn K (ma K (ga K x) f) "property" with
      | some (.ref _ :: _) => true
      | _ => false)))
theorem propB_ok {K : PySem.W.Frag} {x f : Str} (h : propB K x f = true) : PropOf K (ga K x) f (ma K (ga K x) f) (gtA K x f) := by
  obtain ⟨h1, h2⟩ := ba h
  obtain ⟨h3, h4⟩ := ba h2
  obtain ⟨h5, h6⟩ := ba h4
  refine ⟨eqO_ok h1, eqO_ok h3, of_decide_eq_true h5, ?_⟩
  unfold gtA
  split at h6
  · rename_i g rest e
    exact ⟨rest, by rw [e]⟩
  · cases h6
def insB (K : PySem.W.Frag) (x : Str) : Bool := eqO (PySem.W.findIn K (.ref (ga K x)) "__class__") (some (some (.builtin "object.__class__"))) &&
  (eqO (PySem.W.specialIn K (.builtin "object.__class__") "__get__") (some (some (.builtin "getset_descriptor.__get__"))) && (decide (PySem.W.takesIn K (.builtin "object.__class__") = some true) &&
    (decide (PySem.W.mroIn K (ga K x) (.type "object") = some true) && decide (PySem.W.kitOne K (.ref (ga K x)) (.ref (ga K x)) = some true))))
theorem insB_ok {K : PySem.W.Frag} {x : Str} (c : Cls K (ga K x)) (h : insB K x = true) : C8.InsC K (ga K x) := by
  obtain ⟨h1, h2⟩ := ba h
  obtain ⟨h3, h4⟩ := ba h2
  obtain ⟨h5, h6⟩ := ba h4
  obtain ⟨h7, h8⟩ := ba h6
  exact ⟨c, eqO_ok h1, eqO_ok h3, of_decide_eq_true h5, of_decide_eq_true h7, of_decide_eq_true h8⟩

/-! ### the Hook -/
abbrev AlM : Type := Bool × List FnW
def obsM (fa : List Fa) (ex : List (PySem.W.Frag → Bool)) (fn : List DefM) (K : PySem.W.Frag) : AlM := ((fa.all fun f => f.ok K) && ((ex.all fun f => f K) && fn.all fun d => d.ok K), fn.map fun d => fnAt K (d.adr K))
def valM (fn : List DefM) : AlM := (true, fn.map DefM.val)
def SaysM (fa : List Fa) (ex : List (PySem.W.Frag → Bool)) (fn : List DefM) (K : PySem.W.Frag) : Prop := obsM fa ex fn K = valM fn
def obsMG (n : Nat) (fa : List Fa) (ex : List (PySem.W.Frag → Bool)) (fn : List DefM) (g : Addr → Option Obj) : AlM := obsM fa ex fn (frG g (asD g n))
def hookM (n : Nat) (fa : List Fa) (ex : List (PySem.W.Frag → Bool)) (fn : List DefM) : PySem.W.Hook where
  α := AlM
  obs := fun s => obsMG n fa ex fn s.heap.get?
  val := fun _ => valM fn
  says := fun _ h => ∃ K : PySem.W.Frag, K.In h ∧ SaysM fa ex fn K
  of := fun _ _ e => ⟨_, frG_in, e⟩
  keeps := fun _ _ _ ⟨K, hK, c⟩ k => ⟨K, PySem.W.Frag.In.keeps hK k, c⟩
theorem obsMG_eq {n : Nat} {fa : List Fa} {ex : List (PySem.W.Frag → Bool)} {fn : List DefM} {g : Addr → Option Obj} {s : Shared} (h : ∀ a, g a = s.heap.get? a) : obsMG n fa ex fn g = (hookM n fa ex fn).obs s := by
  have e : g = s.heap.get? := funext h
  rw [e]; rfl
section
variable {fa : List Fa} {ex : List (PySem.W.Frag → Bool)} {fn : List DefM} {K : PySem.W.Frag}
theorem SaysM.fact (c : SaysM fa ex fn K) (i : Nat) {f : Fa} (h : fa[i]? = some f := by rfl) : f.ok K = true :=
  List.all_eq_true.mp (ba (congrArg Prod.fst c : _ = true)).1 f (List.mem_of_getElem? h)
theorem SaysM.more (c : SaysM fa ex fn K) (i : Nat) {f : PySem.W.Frag → Bool} (h : ex[i]? = some f := by rfl) : f K = true :=
  List.all_eq_true.mp (ba (ba (congrArg Prod.fst c : _ = true)).2).1 f (List.mem_of_getElem? h)
theorem SaysM.def_ (c : SaysM fa ex fn K) (i : Nat) {d : DefM} (h : fn[i]? = some d := by rfl) : ∃ fd, FunM K d fd := by
  have c2 := (ba (ba (congrArg Prod.fst c : _ = true)).2).2
  have e : fn.map (fun d => fnAt K (d.adr K)) = fn.map DefM.val := congrArg Prod.snd c
  have e2 : (fn.map fun d => fnAt K (d.adr K))[i]? = (fn.map DefM.val)[i]? := by rw [e]
  rw [List.getElem?_map, List.getElem?_map, h] at e2
  exact DefM.fun_ (Option.some.inj e2) (List.all_eq_true.mp c2 d (List.mem_of_getElem? h))
end
end K3

set_option Elab.async false
set_option linter.all false
set_option maxRecDepth 100000
/-! The defs by their places in the text. -/
namespace K3
open PySem PySem.Spec PyProof.Rows L2 He
abbrev RW : PySem.W.OpenLaw := PySem.Challenge.rw_limitwithin_k03_whole_twins
abbrev PRG : Program := PySem.Challenge.pw_limitwithin_k03_whole_twins
def top (i : Nat) : Stmt := PRG.main.body.getD i (.Pass ⟨0, 0, 0, 0⟩)
abbrev s_is_integer : Stmt := top 11
abbrev d_is_integer : DefM := { adr := fun K => ga K "is_integer", name := "is_integer", qual := "is_integer", st := s_is_integer }
abbrev s_is_word : Stmt := top 12
abbrev d_is_word : DefM := { adr := fun K => ga K "is_word", name := "is_word", qual := "is_word", st := s_is_word }
abbrev s_is_part : Stmt := top 13
abbrev d_is_part : DefM := { adr := fun K => ga K "is_part", name := "is_part", qual := "is_part", st := s_is_part }
abbrev s_is_link : Stmt := top 14
abbrev d_is_link : DefM := { adr := fun K => ga K "is_link", name := "is_link", qual := "is_link", st := s_is_link }
abbrev s_Chain_init : Stmt := inClass (top 15) 0
abbrev d_Chain_init : DefM := { adr := fun K => ma K (ga K "Chain") "__init__", name := "__init__", qual := "Chain.__init__", st := s_Chain_init, kwd := [("callers", .int 1), ("charges", .bl false)] }
abbrev s_Chain_links : Stmt := inClass (top 15) 1
abbrev d_Chain_links : DefM := { adr := fun K => gtA K "Chain" "links", name := "links", qual := "Chain.links", st := s_Chain_links }
abbrev s_Chain_callers : Stmt := inClass (top 15) 2
abbrev d_Chain_callers : DefM := { adr := fun K => gtA K "Chain" "callers", name := "callers", qual := "Chain.callers", st := s_Chain_callers }
abbrev s_Chain_charges : Stmt := inClass (top 15) 3
abbrev d_Chain_charges : DefM := { adr := fun K => gtA K "Chain" "charges", name := "charges", qual := "Chain.charges", st := s_Chain_charges }
abbrev s_check_chain : Stmt := top 16
abbrev d_check_chain : DefM := { adr := fun K => ga K "check_chain", name := "check_chain", qual := "check_chain", st := s_check_chain }
abbrev s_events_of : Stmt := top 17
abbrev d_events_of : DefM := { adr := fun K => ga K "events_of", name := "events_of", qual := "events_of", st := s_events_of }
abbrev s_first_of : Stmt := top 19
abbrev d_first_of : DefM := { adr := fun K => ga K "first_of", name := "first_of", qual := "first_of", st := s_first_of }
abbrev s_ticked : Stmt := top 20
abbrev d_ticked : DefM := { adr := fun K => ga K "ticked", name := "ticked", qual := "ticked", st := s_ticked }
abbrev s_does_let : Stmt := top 21
abbrev d_does_let : DefM := { adr := fun K => ga K "does_let", name := "does_let", qual := "does_let", st := s_does_let }
abbrev s_counted : Stmt := top 22
abbrev d_counted : DefM := { adr := fun K => ga K "counted", name := "counted", qual := "counted", st := s_counted }
abbrev s_first_state : Stmt := top 23
abbrev d_first_state : DefM := { adr := fun K => ga K "first_state", name := "first_state", qual := "first_state", st := s_first_state }
abbrev s_after_tick : Stmt := top 24
abbrev d_after_tick : DefM := { adr := fun K => ga K "after_tick", name := "after_tick", qual := "after_tick", st := s_after_tick }
abbrev s_lets_at : Stmt := top 25
abbrev d_lets_at : DefM := { adr := fun K => ga K "lets_at", name := "lets_at", qual := "lets_at", st := s_lets_at }
abbrev s_counted_at : Stmt := top 26
abbrev d_counted_at : DefM := { adr := fun K => ga K "counted_at", name := "counted_at", qual := "counted_at", st := s_counted_at }
abbrev s_answer_at : Stmt := top 27
abbrev d_answer_at : DefM := { adr := fun K => ga K "answer_at", name := "answer_at", qual := "answer_at", st := s_answer_at }
abbrev s_after_ask : Stmt := top 28
abbrev d_after_ask : DefM := { adr := fun K => ga K "after_ask", name := "after_ask", qual := "after_ask", st := s_after_ask }
abbrev s_after_event : Stmt := top 29
abbrev d_after_event : DefM := { adr := fun K => ga K "after_event", name := "after_event", qual := "after_event", st := s_after_event }
abbrev s_reached : Stmt := top 32
abbrev d_reached : DefM := { adr := fun K => ga K "reached", name := "reached", qual := "reached", st := s_reached }
abbrev s_states : Stmt := top 33
abbrev d_states : DefM := { adr := fun K => ga K "states", name := "states", qual := "states", st := s_states }
abbrev s_grouped : Stmt := top 34
abbrev d_grouped : DefM := { adr := fun K => ga K "grouped", name := "grouped", qual := "grouped", st := s_grouped }
abbrev s_groups_of : Stmt := top 35
abbrev d_groups_of : DefM := { adr := fun K => ga K "groups_of", name := "groups_of", qual := "groups_of", st := s_groups_of }
abbrev s_key_of : Stmt := top 36
abbrev d_key_of : DefM := { adr := fun K => ga K "key_of", name := "key_of", qual := "key_of", st := s_key_of }
abbrev s_looked : Stmt := top 37
abbrev d_looked : DefM := { adr := fun K => ga K "looked", name := "looked", qual := "looked", st := s_looked }
abbrev s_parting_of : Stmt := top 38
abbrev d_parting_of : DefM := { adr := fun K => ga K "parting_of", name := "parting_of", qual := "parting_of", st := s_parting_of }
abbrev s_does_part : Stmt := top 39
abbrev d_does_part : DefM := { adr := fun K => ga K "does_part", name := "does_part", qual := "does_part", st := s_does_part }
abbrev s_listed : Stmt := top 40
abbrev d_listed : DefM := { adr := fun K => ga K "listed", name := "listed", qual := "listed", st := s_listed }
abbrev s_Classes_init : Stmt := inClass (top 41) 0
abbrev d_Classes_init : DefM := { adr := fun K => ma K (ga K "Classes") "__init__", name := "__init__", qual := "Classes.__init__", st := s_Classes_init }
abbrev s_Classes_shows : Stmt := inClass (top 41) 2
abbrev d_Classes_shows : DefM := { adr := fun K => ma K (ga K "Classes") "shows", name := "shows", qual := "Classes.shows", st := s_Classes_shows }
abbrev s_pairs_of : Stmt := top 42
abbrev d_pairs_of : DefM := { adr := fun K => ga K "pairs_of", name := "pairs_of", qual := "pairs_of", st := s_pairs_of }
abbrev s_classes : Stmt := top 43
abbrev d_classes : DefM := { adr := fun K => ga K "classes", name := "classes", qual := "classes", st := s_classes }
abbrev s_Lcell_at : Stmt := top 45
abbrev d_Lcell_at : DefM := { adr := fun K => ga K "_law_cell_at", name := "_law_cell_at", qual := "_law_cell_at", st := s_Lcell_at }
abbrev s_Ldraw : Stmt := top 46
abbrev d_Ldraw : DefM := { adr := fun K => ga K "_law_draw", name := "_law_draw", qual := "_law_draw", st := s_Ldraw }
abbrev s_Lnumber : Stmt := top 47
abbrev d_Lnumber : DefM := { adr := fun K => ga K "_law_number", name := "_law_number", qual := "_law_number", st := s_Lnumber }
abbrev s_Lnext : Stmt := top 48
abbrev d_Lnext : DefM := { adr := fun K => ga K "_law_next", name := "_law_next", qual := "_law_next", st := s_Lnext }
abbrev s_Lpick : Stmt := top 49
abbrev d_Lpick : DefM := { adr := fun K => ga K "_law_pick", name := "_law_pick", qual := "_law_pick", st := s_Lpick }
abbrev s_Llink : Stmt := top 50
abbrev d_Llink : DefM := { adr := fun K => ga K "_law_link", name := "_law_link", qual := "_law_link", st := s_Llink }
abbrev s_Lchain : Stmt := top 51
abbrev d_Lchain : DefM := { adr := fun K => ga K "_law_chain", name := "_law_chain", qual := "_law_chain", st := s_Lchain }
abbrev s_Levents : Stmt := top 52
abbrev d_Levents : DefM := { adr := fun K => ga K "_law_events", name := "_law_events", qual := "_law_events", st := s_Levents }
abbrev s_Lnew : Stmt := top 53
abbrev d_Lnew : DefM := { adr := fun K => ga K "_law_new", name := "_law_new", qual := "_law_new", st := s_Lnew }
abbrev s_Lstart : Stmt := top 54
abbrev d_Lstart : DefM := { adr := fun K => ga K "_law_start", name := "_law_start", qual := "_law_start", st := s_Lstart }
abbrev s_Lolder : Stmt := top 55
abbrev d_Lolder : DefM := { adr := fun K => ga K "_law_older", name := "_law_older", qual := "_law_older", st := s_Lolder }
abbrev s_Lroom : Stmt := top 56
abbrev d_Lroom : DefM := { adr := fun K => ga K "_law_room", name := "_law_room", qual := "_law_room", st := s_Lroom }
abbrev s_Lmore : Stmt := top 57
abbrev d_Lmore : DefM := { adr := fun K => ga K "_law_more", name := "_law_more", qual := "_law_more", st := s_Lmore }
abbrev s_Ltick : Stmt := top 58
abbrev d_Ltick : DefM := { adr := fun K => ga K "_law_tick", name := "_law_tick", qual := "_law_tick", st := s_Ltick }
abbrev s_Lask : Stmt := top 59
abbrev d_Lask : DefM := { adr := fun K => ga K "_law_ask", name := "_law_ask", qual := "_law_ask", st := s_Lask }
abbrev s_Lstep : Stmt := top 60
abbrev d_Lstep : DefM := { adr := fun K => ga K "_law_step", name := "_law_step", qual := "_law_step", st := s_Lstep }
abbrev s_Lreached : Stmt := top 61
abbrev d_Lreached : DefM := { adr := fun K => ga K "_law_reached", name := "_law_reached", qual := "_law_reached", st := s_Lreached }
abbrev s_Lapart : Stmt := top 62
abbrev d_Lapart : DefM := { adr := fun K => ga K "_law_apart", name := "_law_apart", qual := "_law_apart", st := s_Lapart }
abbrev s_Lspeaks : Stmt := top 63
abbrev d_Lspeaks : DefM := { adr := fun K => ga K "_law_speaks", name := "_law_speaks", qual := "_law_speaks", st := s_Lspeaks }
abbrev s_Lgroups : Stmt := top 64
abbrev d_Lgroups : DefM := { adr := fun K => ga K "_law_groups", name := "_law_groups", qual := "_law_groups", st := s_Lgroups }
abbrev s_Lone_right : Stmt := top 65
abbrev d_Lone_right : DefM := { adr := fun K => ga K "_law_one_right", name := "_law_one_right", qual := "_law_one_right", st := s_Lone_right }
abbrev s_law : Stmt := top 66
abbrev d_law : DefM := { adr := fun K => ga K "law", name := "law", qual := "law", st := s_law }
def fn0 : List DefM := [d_is_integer, d_is_word, d_is_part, d_is_link, d_Chain_init, d_Chain_links, d_Chain_callers, d_Chain_charges, d_check_chain, d_events_of, d_first_of, d_ticked, d_does_let, d_counted, d_first_state, d_after_tick, d_lets_at, d_counted_at, d_answer_at, d_after_ask]
def fn1 : List DefM := [d_after_event, d_reached, d_states, d_grouped, d_groups_of, d_key_of, d_looked, d_parting_of, d_does_part, d_listed, d_Classes_init, d_Classes_shows, d_pairs_of, d_classes, d_Lcell_at, d_Ldraw, d_Lnumber, d_Lnext, d_Lpick, d_Llink]
def fn2 : List DefM := [d_Lchain, d_Levents, d_Lnew, d_Lstart, d_Lolder, d_Lroom, d_Lmore, d_Ltick, d_Lask, d_Lstep, d_Lreached, d_Lapart, d_Lspeaks, d_Lgroups, d_Lone_right, d_law]
def fnL : List DefM := fn0 ++ fn1 ++ fn2
def fa0 : List Fa := [.glo "BadChain", .glo "is_integer", .glo "is_word", .glo "is_part", .glo "is_link", .glo "Chain", .glo "check_chain", .glo "events_of", .glo "first_of", .glo "ticked", .glo "does_let", .glo "counted", .glo "first_state", .glo "after_tick", .glo "lets_at", .glo "counted_at", .glo "answer_at", .glo "after_ask", .glo "after_event", .glo "reached", .glo "states", .glo "grouped", .glo "groups_of", .glo "key_of", .glo "looked", .glo "parting_of", .glo "does_part", .glo "listed", .glo "Classes", .glo "pairs_of"]
def fa1 : List Fa := [.glo "classes", .glo "_law_cell_at", .glo "_law_draw", .glo "_law_number", .glo "_law_next", .glo "_law_pick", .glo "_law_link", .glo "_law_chain", .glo "_law_events", .glo "_law_new", .glo "_law_start", .glo "_law_older", .glo "_law_room", .glo "_law_more", .glo "_law_tick", .glo "_law_ask", .glo "_law_step", .glo "_law_reached", .glo "_law_apart", .glo "_law_speaks", .glo "_law_groups", .glo "_law_one_right", .glo "law"]
def fa2 : List Fa := [.free "isinstance", .free "int", .free "bool", .free "str", .free "tuple", .free "len", .free "all", .free "range", .free "zip", .free "enumerate", .free "min", .free "max", .free "list", .free "dict", .int "MAX_LIMIT" 4, .int "MAX_SPAN" 6, .int "MAX_LINKS" 3, .int "MAX_CALLERS" 2, .int "MAX_STATES" 60, .glo "SCOPES", .glo "TICK", .cls "Chain", .cls "Classes", .mkr "Chain", .mkr "Classes", .meth "Classes" "shows", .noat "Chain" "rows", .noat "Chain" "folk", .noat "Chain" "costly", .noat "Classes" "classes", .noat "Classes" "doubts"]
def faL : List Fa := fa0 ++ fa1 ++ fa2
def exL : List (PySem.W.Frag → Bool) := [fun K => tupB K "SCOPES" [.str "all", .str "each"], fun K => tupB K "TICK" [.str "tick"], fun K => propB K "Chain" "links", fun K => propB K "Chain" "callers", fun K => propB K "Chain" "charges", fun K => insB K "Chain"]
end K3

set_option Elab.async false
set_option linter.all false
set_option maxRecDepth 100000
set_option maxHeartbeats 2000000
/-! What a reading evaluates to, told by data. -/
namespace K3
open PySem PySem.Spec PyProof.Rows L2

/-! ### rules for any data -/
section
variable {X : Cx} {C : Addr}
theorem CallR.or {f : Value} {r r' : List V → Hp → VK → Prop} (h : CallR X f r) (h' : CallR X f r') : CallR X f (fun xs H Q => r xs H Q ∨ r' xs H Q) := by
  intro pins s σ H xs us Q I rs q
  rcases q with q | q
  · exact h pins s σ H xs us Q I rs q
  · exact h' pins s σ H xs us Q I rs q
/-- the layer's rules, by the data's frame -/
def rDGetG (G : Gs) : R2 := fun x y H Q => ∃ k a ks vs d, x = .ref a ∧ IsK G H y k ∧ DAt G H (.ref a) (.dct ks vs) ∧ dget ks vs k = some d ∧ ∀ v, DAt G H v d → Q v H
def rDInG (G : Gs) (neg : Bool) : R2 := fun x y H Q => ∃ k a ks vs, IsK G H x k ∧ y = .ref a ∧ DAt G H (.ref a) (.dct ks vs) ∧ Q (.bl (if neg then !(kix ks (key k)).isSome else (kix ks (key k)).isSome)) H
abbrev rIxU (G : Gs) : R2 := fun x y H Q => rIx G.K x y H Q ∨ rDGetG G x y H Q
theorem ix_U (hu : X.A.units + 64 < cLine) : IxR X (rIxU (gs X C)) := ix_seq.or (ix_dct hu)
abbrev rEqU (G : Gs) : R2 := fun x y H Q => rEq x y H Q ∨ rEqD G.K x y H Q
theorem op_eqU (hu : X.A.units + 64 < cLine) : OpR X (compareOp .Eq) (rEqU (gs X C)) := op_eq.or (op_eqD hu)
abbrev rNeU (G : Gs) : R2 := fun x y H Q => rNe x y H Q ∨ rNeD G.K x y H Q
theorem op_neU (hu : X.A.units + 64 < cLine) : OpR X (compareOp .NotEq) (rNeU (gs X C)) := op_ne.or (op_neD hu)
abbrev rInU (G : Gs) : R2 := fun x y H Q => (rIn G.K false x y H Q ∨ rDInG G false x y H Q) ∨ rInD G.K x y H Q
theorem op_inU (hu : X.A.units + 65 < cLine) : OpR X (compareOp .In) (rInU (gs X C)) := (op_in_seq.or (op_dIn (by omega))).or (op_inD hu)
abbrev rNiU (G : Gs) : R2 := fun x y H Q => (rIn G.K true x y H Q ∨ rDInG G true x y H Q) ∨ rNotInD G.K x y H Q
theorem op_niU (hu : X.A.units + 65 < cLine) : OpR X (compareOp .NotIn) (rNiU (gs X C)) := (op_notIn_seq.or (op_dNotIn (by omega))).or (op_notInD hu)
abbrev rAddU (G : Gs) : R2 := fun x y H Q => (rI0 (fun i j => .int (i + j)) x y H Q ∨ rCatD G.K x y H Q) ∨ rCat x y H Q
theorem op_addU : OpR X (binaryOp .Add) (rAddU (gs X C)) := (op_add.or op_catD).or op_cat
abbrev rMulU (G : Gs) : R2 := fun x y H Q => rI CMul (fun i j => .int (i * j)) x y H Q ∨ rRepD G.K x y H Q
theorem op_mulU : OpR X (binaryOp .Mult) (rMulU (gs X C)) := op_mul.or op_repD
abbrev rLenU (G : Gs) : List V → Hp → VK → Prop := fun xs H Q => (∃ x n, xs = [x] ∧ LenV G.K x H n ∧ Q (.int n) H) ∨ (∃ a ks vs, xs = [.ref a] ∧ DAt G H (.ref a) (.dct ks vs) ∧ Q (.int ks.length) H) ∨ ∃ a o kvs, xs = [.ref a] ∧ H a = some (objO a o) ∧ IDc G.P G.w a o kvs ∧ Q (.int kvs.length) H
theorem call_len_idc : CallR X (.builtin "len") (fun xs H Q => ∃ a o kvs, xs = [.ref a] ∧ H a = some (objO a o) ∧ IDc X.prog X.w a o kvs ∧ Q (.int kvs.length) H) := by
  intro pins s σ H xs us Q I r h
  obtain ⟨a, o, kvs, rfl, h1, h2, q⟩ := h
  obtain ⟨u, rfl, rx⟩ := vals1 r
  cases rx
  refine call_len_dict (knd := intKind X.prog X.w) h2.low (h2.at_ _ (objO_at I h1)) (by have := h2.len; rw [sizeLine_eq] at this; omega) ?_
  exact ⟨.int _, H, I.tok _, ⟨_, rfl⟩, q⟩
theorem call_lenU : CallR X (.builtin "len") (rLenU (gs X C)) := CallR.or call_len (CallR.or call_len_dct call_len_idc)
/-- list(..) -/
abbrev rLstU (G : Gs) : List V → Hp → VK → Prop := fun xs H Q => (∃ p ys, xs = [.ref p] ∧ (SqL G.K H p ys ∨ SqT G.K H p ys) ∧ ∀ l, H l = none → Q (.ref l) (upd H l (.lst ys))) ∨
  ∃ a ks vs, xs = [.ref a] ∧ DAt G H (.ref a) (.dct ks vs) ∧ ∀ p bs, H p = none → DAll G H bs ks → Q (.ref p) (upd H p (.lst bs))
theorem call_lstU (hc : X.calm = true) : CallR X (.type "list") (rLstU (gs X C)) := CallR.or call_list_of (call_list_dct hc)
/-- tuple(..) -/
abbrev rTupU (G : Gs) : List V → Hp → VK → Prop := fun xs H Q => ∃ p ys, xs = [.ref p] ∧ ((SqL G.K H p ys ∧ ∀ l, H l = none → Q (.ref l) (upd H l (.tup ys))) ∨ (SqT G.K H p ys ∧ Q (.ref p) H))
theorem call_tupU : CallR X (.type "tuple") (rTupU (gs X C)) := call_tuple_of
abbrev rMinU : List V → Hp → VK → Prop := fun xs H Q => ∃ i j, xs = [.int i, .int j] ∧ Q (.int (if j < i then j else i)) H
abbrev rMaxU : List V → Hp → VK → Prop := fun xs H Q => ∃ i j, xs = [.int i, .int j] ∧ Q (.int (if j > i then j else i)) H
abbrev rIntU : List V → Hp → VK → Prop := fun xs H Q => (∃ i, xs = [.int i] ∧ Q (.int i) H) ∨ ∃ k, xs = [.bl k] ∧ Q (.int (if k then 1 else 0)) H
abbrev rIsiU (G : Gs) : List V → Hp → VK → Prop := fun xs H Q => rIsi G.K xs H Q ∨ ∃ a dx fs, xs = [.ref a, .ref G.C] ∧ H a = some (.ins G.C dx fs) ∧ Q (.bl true) H
theorem call_isiU (c : C8.InsC X.K C) : CallR X (.builtin "isinstance") (rIsiU (gs X C)) := CallR.or call_isi (C8.call_isC c)
abbrev rSlU (G : Gs) : V → Option Int → Option Int → Hp → VK → Prop := fun x lo hi H Q => rSlA G.K x lo hi H Q ∨ rSlL G.K x lo hi H Q
theorem sl_U : SlR X (rSlU (gs X C)) := SlR.or sl_tupA sl_list
abbrev rNoneIs : R2 := fun x y H Q => y = .non ∧ Q (.bl (decide (x = .non))) H
abbrev rNoneNot : R2 := fun x y H Q => y = .non ∧ Q (.bl (!decide (x = .non))) H
abbrev rNotU : R2 := fun x y H Q => rNoneNot x y H Q ∨ rNotB x y H Q
theorem op_notU : OpR X (compareOp .IsNot) rNotU := op_notN.or op_notBl
theorem Room_u65 {k : Nat} {A : Around} (r : Room k A) : A.units + 65 < cLine := by have := r.un; omega

/-- name = {..} on one line, the name a local -/
theorem ps_setDcx {i : Nat} {y : Str} {py : Pos} {kx vx tg iter : Expr} {ifs : List Expr} {scope : Scope} {own : List (Str × Nat)} {pos spos : Pos} {wi : TI} {g : TG} {tt : TT} {tk tv : TE} (hu : X.A.units + 64 < cLine) (hc : X.calm = true) (hN : X.N.Nodup) (hy : X.N[i]? = some y) (hyl : X.env.scope.names.lookup y = some .local)
    (hsw : swapsWith (.DictComp kx vx [⟨tg, iter, ifs, 0⟩] scope pos) (some (.Name y py)) spos.line X.env = pure true) (hi : PI X tg iter wi) (ok : BlkOk X.N X.env.scope scope own) (p : DcParts X kx vx tg ifs scope g tt tk tv) (hs : ∀ x, foldedSetIterable iter X.env x = pure x := by intro _; rfl) :
    PS X (.Assign [.Name y py] (.DictComp kx vx [⟨tg, iter, ifs, 0⟩] scope pos) spos) (tAsg (tDcX (gs X C) wi g tt tk tv (own.map (·.2))) (gName i)) := by
  refine ⟨fun pins s σ H D I h => ?_⟩
  rw [exec_Assign_Name_used _ _ _ _ hsw]
  refine wpAny_bind (wpAny_standAt (wpAny_bind ?_))
  show wpAny _ X.A (do let _ ← comprehension (.DictComp kx vx [⟨tg, iter, ifs, 0⟩] scope pos) scope X.env (firstIterPos [⟨tg, iter, ifs, 0⟩] pos) newDict false (eval iter X.env) (some (assign (.Name y py) X.env))) _ _ s
  have h : tDcX (gs X C) wi g tt tk tv (own.map (·.2)) σ H (fun x H1 => gName i x σ H1 D.nx) := h
  refine wpAny_bind (thn (dcx_core (Qf := fun _ s' => SP X pins D .next s') hu hc hN I hi ok p hs h fun L C s' m H' I' q hn f => ?_) fun _ s' hq => wpAny_pure (wpAny_pure hq))
  show wpAny _ _ (assign (.Name y py) X.env (.ref L)) _ _ _
  refine wpAny_assign_Name (store_ok2 (v := V.ref L) I' hN hy (.inl hyl) rfl (fun s2 I2 ⟨a, sb, ha⟩ => ?_) (.inr hyl))
  obtain ⟨f0, f1, f2, f3, f4, f5⟩ := f
  have haC : C ≠ a := by
    rcases ha with z | z
    · rw [z]; exact f1
    · exact fun e => f4 y a z e.symm
  refine ⟨m, hn.sameBut sb haC, fun h3 sb3 => ?_⟩
  exact ⟨_, H', I2.turned (t' := s2.toks) (fun b o hb e => (sb3.2 b hb).trans e) f0 f1 f3 f4 f5, q⟩
theorem sw_trueD {kx vx : Expr} {gs : List Comprehension} {scope : Scope} {pos py : Pos} {y : Str} {l : Nat} {env : Env} (hk : env.scope.kind = .function) (hy : env.scope.names.lookup y = some .local) (hl : (py.line == pos.line) = true)
    (ha : (scope.names.any fun (n, k) => n == y && (k == .local || k == .cell)) = false) : swapsWith (.DictComp kx vx gs scope pos) (some (.Name y py)) l env = pure true := by
  have ky : env.kindOf y = some .local := hy
  have hb : env.blockKind = .function := by unfold Env.blockKind; rw [hk]; rfl
  unfold swapsWith
  simp only [hb, ky, ha, Expr.pos, hl]
  rfl
end
end K3

set_option Elab.async false
set_option linter.all false
set_option maxRecDepth 100000
set_option maxHeartbeats 2000000
/-! What a reading evaluates to, told by data: the layer. -/
namespace K3
open PySem PySem.Spec PyProof.Rows L2

def Ed (G : Gs) (te : TE) (σ : L2.St) (H : Hp) (d : D) : Prop := ∀ H1, Same H H1 → ∀ Q : VK, (∀ v H2, Same H1 H2 → DAt G H2 v d → Q v H2) → te σ H1 Q
/-- a new list of one's own -/
def EdN (G : Gs) (te : TE) (σ : L2.St) (H : Hp) (ds : List D) : Prop := ∀ H1, Same H H1 → ∀ Q : VK, (∀ p vs H2, H1 p = none → Same H1 H2 → H2 p = some (.lst vs) → DAll G H2 vs ds → Q (.ref p) H2) → te σ H1 Q
def EdA (G : Gs) (ta : TA) (σ : L2.St) (H : Hp) (ds : List D) : Prop := ∀ H1, Same H H1 → ∀ Q : List V → Hp → Prop, (∀ vs H2, Same H1 H2 → DAll G H2 vs ds → Q vs H2) → ta σ H1 Q
abbrev EdT (tt : TT) (σ : L2.St) (H : Hp) (b : Bool) : Prop := Evl.EvT tt σ H b
def RD2 (G : Gs) (r : R2) (x y z : D) : Prop := ∀ H u v (Q : VK), DAt G H u x → DAt G H v y → (∀ w H', Same H H' → DAt G H' w z → Q w H') → r u v H Q
def RDC (G : Gs) (r : List V → Hp → VK → Prop) (ds : List D) (z : D) : Prop := ∀ H vs (Q : VK), DAll G H vs ds → (∀ w H', Same H H' → DAt G H' w z → Q w H') → r vs H Q
/-- what a def of data promises -/
def spD (G : Gs) (dom : List D → D → Prop) : Sp := fun vs H Q _ => ∃ ds r, DAll G H vs ds ∧ dom ds r ∧ ∀ v H', Same H H' → DAt G H' v r → Q v H'

section
variable {G : Gs} {σ : L2.St} {H H' : Hp} {te ta tb : TE} {tt tu : TT} {t tr : TA} {d e z : D} {ds es : List D} {b c : Bool} {v : V}
theorem Ed.mono (s : Same H H') (h : Ed G te σ H d) : Ed G te σ H' d := fun H1 a Q q => h H1 (s.trans a) Q q
theorem EdN.mono (s : Same H H') (h : EdN G te σ H ds) : EdN G te σ H' ds := fun H1 a Q q => h H1 (s.trans a) Q q
theorem EdA.mono (s : Same H H') (h : EdA G t σ H ds) : EdA G t σ H' ds := fun H1 a Q q => h H1 (s.trans a) Q q
theorem EdN.ed (h : EdN G te σ H ds) : Ed G te σ H (.lst ds) := fun H1 a Q q => h H1 a Q fun p vs H2 _ s hp ha => q _ H2 s (.lst (.inl (.inl hp)) ha)
theorem Ed.is (h : Ed G te σ H d) (q : d = e) : Ed G te σ H e := q ▸ h
theorem ed_var {i : Nat} (h : σ[i]? = some (some v)) (hd : DAt G H v d) : Ed G (tVar i) σ H d := fun H1 s Q q => ⟨v, h, q v H1 (Same.refl H1) (hd.mn s)⟩
theorem ed_int {i : Int} : Ed G (tC (.int i)) σ H (.int i) := fun H1 _ Q q => q _ H1 (Same.refl H1) (.int i)
theorem ed_str {x : Str} : Ed G (tC (.str x)) σ H (.str x) := fun H1 _ Q q => q _ H1 (Same.refl H1) (.str x)
theorem ed_bl {b : Bool} : Ed G (tC (.bl b)) σ H (.bl b) := fun H1 _ Q q => q _ H1 (Same.refl H1) (.bl b)
theorem ed_non : Ed G (tC .non) σ H .non := fun H1 _ Q q => q _ H1 (Same.refl H1) .non
theorem ed_c (h : ∀ H1, Same H H1 → DAt G H1 v d) : Ed G (tC v) σ H d := fun H1 s Q q => q _ H1 (Same.refl H1) (h H1 s)
theorem ed_op {r : R2} (ha : Ed G ta σ H d) (hb : Ed G tb σ H e) (hr : RD2 G r d e z) : Ed G (tOp r ta tb) σ H z := fun H1 s Q q =>
  ha H1 s _ fun u H2 s2 du => hb H2 (s.trans s2) _ fun w H3 s3 dw => hr H3 u w Q (du.mn s3) dw fun x H4 s4 dx => q x H4 ((s2.trans s3).trans s4) dx
theorem eda_nil : EdA G tNil σ H [] := fun H1 _ Q q => q [] H1 (Same.refl H1) .nil
theorem eda_cons (h : Ed G te σ H d) (hr : EdA G tr σ H ds) : EdA G (tCons te tr) σ H (d :: ds) := fun H1 s Q q =>
  h H1 s _ fun u H2 s2 du => hr H2 (s.trans s2) _ fun vs H3 s3 da => q (u :: vs) H3 (s2.trans s3) (.cons (du.mn s3) da)
theorem eda_starT (h : Ed G te σ H (.tup es)) (hr : EdA G tr σ H ds) : EdA G (StX.tStar G.K te tr) σ H (es ++ ds) := fun H1 s Q q =>
  h H1 s _ fun u H2 s2 du => by
    cases du with
    | tup h1 h2 => exact ⟨_, _, rfl, .inl h1, hr H2 (s.trans s2) _ fun vs H3 s3 da => q _ H3 (s2.trans s3) ((h2.mn s3).append da)⟩
theorem eda_starL (h : Ed G te σ H (.lst es)) (hr : EdA G tr σ H ds) : EdA G (StX.tStar G.K te tr) σ H (es ++ ds) := fun H1 s Q q =>
  h H1 s _ fun u H2 s2 du => by
    cases du with
    | lst h1 h2 => exact ⟨_, _, rfl, .inr h1, hr H2 (s.trans s2) _ fun vs H3 s3 da => q _ H3 (s2.trans s3) ((h2.mn s3).append da)⟩
theorem ed_tup (h : EdA G t σ H ds) (hl : ds.length ≤ 100000) : Ed G (tTup t) σ H (.tup ds) := fun H1 s Q q =>
  h H1 s _ fun vs H2 s2 da => ⟨Evl.sz_of (by rw [da.length]; exact hl), fun p hp => q _ _ (s2.trans (.new hp)) (.tup (.inl (.inl upd_same)) (da.mn (.new hp)))⟩
theorem edn_lst (h : EdA G t σ H ds) (hl : ds.length ≤ 100000) : EdN G (tLst t) σ H ds := fun H1 s Q q =>
  h H1 s _ fun vs H2 s2 da => ⟨Evl.sz_of (by rw [da.length]; exact hl), fun p hp => q p vs _ (s2.free hp) (s2.trans (.new hp)) upd_same (da.mn (.new hp))⟩
theorem ed_cb {r : List V → Hp → VK → Prop} (h : EdA G t σ H ds) (hr : RDC G r ds z) : Ed G (tCB r t) σ H z := fun H1 s Q q =>
  h H1 s _ fun vs H2 s2 da => hr H2 vs Q da fun w H3 s3 dw => q w H3 (s2.trans s3) dw
theorem ed_call {dom : List D → D → Prop} {E : XK} (h : EdA G t σ H ds) (hd : dom ds z) : Ed G (tCall (spD G dom) [] E t) σ H z := fun H1 s Q q =>
  h H1 s _ fun vs H2 s2 da => ⟨ds, z, by rw [List.append_nil]; exact da, hd, fun v H3 s3 dv => q v H3 (s2.trans s3) dv⟩
theorem ed_if (h : EdT tt σ H b) (h1 : b = true → Ed G ta σ H d) (h2 : b = false → Ed G tb σ H d) : Ed G (tIf tt ta tb) σ H d := fun H1 s Q q => h H1 s _ fun H2 s2 => by
  cases b with
  | true => exact iteT (h1 rfl H2 (Same.trans s s2) Q fun v H3 s3 dv => q v H3 (Same.trans s2 s3) dv)
  | false => exact iteF (h2 rfl H2 (Same.trans s s2) Q fun v H3 s3 dv => q v H3 (Same.trans s2 s3) dv)
theorem et_test (h : Ed G te σ H (.bl b)) : EdT (tTest te) σ H b := fun H1 s _ q => h H1 s _ fun v H2 s2 dv => by
  cases dv; exact ⟨b, rfl, q H2 s2⟩
theorem et_B (h : Ed G te σ H (.bl b)) : EdT (tB te) σ H b := fun H1 s _ q => h H1 s _ fun v H2 s2 dv => by
  cases dv; exact ⟨b, rfl, q H2 s2⟩
theorem ed_notV (h : Ed G te σ H (.bl b)) : Ed G (tNotV te) σ H (.bl (!b)) := fun H1 s _ q => h H1 s _ fun v H2 s2 dv => by
  cases dv; exact ⟨b, rfl, q _ H2 s2 (.bl _)⟩
theorem ed_andV (h : Ed G ta σ H (.bl b)) (h2 : b = true → Ed G tb σ H (.bl c)) : Ed G (tAndV ta tb) σ H (.bl (b && c)) := fun H1 s Q q => h H1 s _ fun v H2 s2 dv => by
  cases dv
  refine ⟨b, rfl, ?_⟩
  cases b with
  | true => exact iteT (h2 rfl H2 (s.trans s2) Q fun v H3 s3 dv => q v H3 (s2.trans s3) dv)
  | false => exact iteF (q _ H2 s2 (.bl _))
theorem ed_orV (h : Ed G ta σ H (.bl b)) (h2 : b = false → Ed G tb σ H (.bl c)) : Ed G (tOrV ta tb) σ H (.bl (b || c)) := fun H1 s Q q => h H1 s _ fun v H2 s2 dv => by
  cases dv
  refine ⟨b, rfl, ?_⟩
  cases b with
  | true => exact iteT (q _ H2 s2 (.bl _))
  | false => exact iteF (h2 rfl H2 (s.trans s2) Q fun v H3 s3 dv => q v H3 (s2.trans s3) dv)
theorem ed_fld {r : D} {f : Int} {n : Bool} {x : Str} (hc : Cls G.K G.C) (hn : NoAttr G.K G.C x) (h : Ed G te σ H (.chn r f n)) (hd : ∀ rv H1, DAt G H1 rv r → ∃ u, (cflds rv f n).lookup x = some u ∧ DAt G H1 u d) : Ed G (tFld G.K te x) σ H d := fun H1 s Q q =>
  h H1 s _ fun v H2 s2 dv => by
    cases dv with
    | chn h1 h2 =>
      obtain ⟨u, e, du⟩ := hd _ _ h2
      exact ⟨_, _, _, _, u, rfl, h1, hc, hn, e, q u H2 s2 du⟩
end
end K3

set_option Elab.async false
set_option linter.all false
set_option maxRecDepth 100000
set_option maxHeartbeats 2000000
/-! What the rules for any data answer, told by data. -/
namespace K3
open PySem PySem.Spec PyProof.Rows L2

noncomputable instance instDecD : DecidableEq D := fun a b => Classical.propDecidable (a = b)
/-- None or a bool -/
def nb : D → Bool
  | .non | .bl _ => true
  | _ => false
def CmpOk (d e : D) : Prop := ((∃ n, n ≤ 64 ∧ eqd n d = true) ∧ ∃ n, n ≤ 64 ∧ eqd n e = true) ∨ (nb d = true ∧ nb e = true)
theorem decB {p q : Prop} [Decidable p] [Decidable q] (h : p ↔ q) : decide p = decide q := by
  by_cases hp : p
  · rw [decide_eq_true hp, decide_eq_true (h.mp hp)]
  · rw [decide_eq_false hp, decide_eq_false (fun q => hp (h.mpr q))]
theorem nb_eq {G : Gs} {H : Hp} {x y : V} {d e : D} (h1 : nb d = true) (h2 : nb e = true) (hx : DAt G H x d) (hy : DAt G H y e) : scal x y = true ∧ decide (x = y) = decide (d = e) := by
  cases hx <;> first | (cases h1; done) | skip
  all_goals cases hy <;> first | (cases h2; done) | skip
  · exact ⟨rfl, decB ⟨fun _ => rfl, fun _ => rfl⟩⟩
  · exact ⟨rfl, decB ⟨(fun h => by cases h), (fun h => by cases h)⟩⟩
  · exact ⟨rfl, decB ⟨(fun h => by cases h), (fun h => by cases h)⟩⟩
  · exact ⟨rfl, decB ⟨fun h => by cases h; rfl, fun h => by cases h; rfl⟩⟩
section
variable {G : Gs} {d e z : D} {ds es : List D} {i j k : Int}
theorem DAll.atI {H : Hp} {vs : List V} (h : DAll G H vs ds) (e : atI ds i = some d) : ∃ v, atI vs i = some v ∧ DAt G H v d := by
  unfold L2.atI at e ⊢
  rw [h.length]
  cases q : ixN ds.length i with
  | none => rw [q] at e; cases e
  | some j =>
    rw [q] at e
    exact h.get (i := j) e
theorem rd_ixT (h : atI ds i = some d) : RD2 G (rIxU G) (.tup ds) (.int i) d := fun H u v Q hu hv q => by
  cases hv
  cases hu with
  | tup h1 h2 =>
    obtain ⟨w, e1, e2⟩ := h2.atI h
    exact .inl (.inr (.inl ⟨_, _, _, w, rfl, rfl, h1, e1, q w H (Same.refl H) e2⟩))
theorem rd_ixL (h : atI ds i = some d) : RD2 G (rIxU G) (.lst ds) (.int i) d := fun H u v Q hu hv q => by
  cases hv
  cases hu with
  | lst h1 h2 =>
    obtain ⟨w, e1, e2⟩ := h2.atI h
    exact .inl (.inl ⟨_, _, _, w, rfl, rfl, h1, e1, q w H (Same.refl H) e2⟩)
theorem isK_of {G : Gs} {H : Hp} {v : V} {n : Nat} (hn : n ≤ 8) (hk : kyd n (.tup ds) = true) (h : DAt G H v (.tup ds)) : IsK G H v (.tup ds) := by
  obtain ⟨h1, h2, h3⟩ := kyd_facts _ n hk
  refine ⟨h, h2, Nat.le_trans h3 hn, ?_⟩
  cases h with
  | tup _ _ => exact ⟨_, rfl⟩
theorem rd_ixD {n : Nat} (hn : n ≤ 8) {ks vs : List D} (hk : kyd n (.tup ds) = true) (h : dget ks vs (.tup ds) = some d) : RD2 G (rIxU G) (.dct ks vs) (.tup ds) d := fun H u v Q hu hv q => by
  obtain ⟨b, rfl⟩ : ∃ b, u = .ref b := by cases hu; exact ⟨_, rfl⟩
  exact .inr ⟨.tup ds, b, ks, vs, d, rfl, isK_of hn hk hv, hu, h, fun w hw => q w H (Same.refl H) hw⟩
theorem rd_eq (h : CmpOk d e) : RD2 G (rEqU G) d e (.bl (decide (d = e))) := fun H u v Q hu hv q => by
  rcases h with ⟨⟨n, hn, h1⟩, m, hm, h2⟩ | ⟨h1, h2⟩
  · refine .inr ⟨toPy d, toPy e, hu.dp (eqd_pln d n h1), hv.dp (eqd_pln e m h2), eqd_shaped h1 hn, eqd_shaped h2 hm, ?_⟩
    have e1 : PyData.eqv (toPy d) (toPy e) = decide (d = e) := Bool.eq_iff_iff.mpr (by rw [decide_eq_true_eq]; exact eqd_eqv d e n m h1 h2)
    rw [e1]; exact q _ H (Same.refl H) (.bl _)
  · left
    obtain ⟨e1, e2⟩ := nb_eq h1 h2 hu hv
    exact ⟨e1, by rw [e2]; exact q _ H (Same.refl H) (.bl _)⟩
theorem rd_ne (h : CmpOk d e) : RD2 G (rNeU G) d e (.bl (!decide (d = e))) := fun H u v Q hu hv q => by
  rcases h with ⟨⟨n, hn, h1⟩, m, hm, h2⟩ | ⟨h1, h2⟩
  · refine .inr ⟨toPy d, toPy e, hu.dp (eqd_pln d n h1), hv.dp (eqd_pln e m h2), eqd_shaped h1 hn, eqd_shaped h2 hm, ?_⟩
    have e1 : PyData.eqv (toPy d) (toPy e) = decide (d = e) := Bool.eq_iff_iff.mpr (by rw [decide_eq_true_eq]; exact eqd_eqv d e n m h1 h2)
    rw [e1]; exact q _ H (Same.refl H) (.bl _)
  · left
    obtain ⟨e1, e2⟩ := nb_eq h1 h2 hu hv
    exact ⟨e1, by rw [e2]; exact q _ H (Same.refl H) (.bl _)⟩
theorem rd_I0 {f : Int → Int → Int} : RD2 G (rI0 fun i j => .int (f i j)) (.int i) (.int j) (.int (f i j)) := fun H u v Q hu hv q => by
  cases hu; cases hv
  exact ⟨i, j, rfl, rfl, q _ H (Same.refl H) (.int _)⟩
theorem rd_I {c : Int → Int → Prop} {f : Int → Int → Int} (h : c i j) : RD2 G (rI c fun i j => .int (f i j)) (.int i) (.int j) (.int (f i j)) := fun H u v Q hu hv q => by
  cases hu; cases hv
  exact ⟨i, j, rfl, rfl, h, q _ H (Same.refl H) (.int _)⟩
theorem rd_B0 {f : Int → Int → Bool} : RD2 G (rI0 fun i j => .bl (f i j)) (.int i) (.int j) (.bl (f i j)) := fun H u v Q hu hv q => by
  cases hu; cases hv
  exact ⟨i, j, rfl, rfl, q _ H (Same.refl H) (.bl _)⟩
theorem rd_add : RD2 G (rAddU G) (.int i) (.int j) (.int (i + j)) := fun H u v Q hu hv q => .inl (.inl (rd_I0 (G := G) (f := fun i j => i + j) H u v Q hu hv q))
theorem rd_mul (h : CMul i j) : RD2 G (rMulU G) (.int i) (.int j) (.int (i * j)) := fun H u v Q hu hv q => .inl (rd_I (G := G) (f := fun i j => i * j) h H u v Q hu hv q)
theorem rd_cat (h : ds.length + es.length ≤ 100000) : RD2 G (rAddU G) (.tup ds) (.tup es) (.tup (ds ++ es)) := fun H u v Q hu hv q => .inl (.inr (by
  cases hu with
  | tup h1 h2 =>
    cases hv with
    | tup k1 k2 => exact ⟨_, _, _, _, rfl, rfl, h1, k1, Evl.sz_of (by rw [h2.length, k2.length]; exact h), fun p H' s hp => q _ H' s (.tup hp ((h2.mn s).append (k2.mn s)))⟩))
theorem DAll.rep {H : Hp} {vs : List V} (h : DAll G H vs ds) : ∀ n : Nat, DAll G H (List.replicate n vs).flatten (List.replicate n ds).flatten
  | 0 => .nil
  | n + 1 => by
    rw [List.replicate_succ, List.replicate_succ, List.flatten_cons, List.flatten_cons]
    exact h.append (DAll.rep h n)
theorem rd_rep {n : Nat} (hn : 1 ≤ n ∧ n ≤ 1000) (h : ds ≠ []) (hl : ds.length ≤ 1000) : RD2 G (rMulU G) (.tup ds) (.int (n : Int)) (.tup (List.replicate n ds).flatten) := fun H u v Q hu hv q => .inr (by
  cases hv
  cases hu with
  | tup h1 h2 =>
    refine ⟨_, (n : Int), _, rfl, rfl, h1, fun e => ?_, by omega, by omega, by rw [h2.length]; exact hl, fun p H' s hp => q _ H' s (.tup hp ((h2.mn s).rep n))⟩
    rw [e] at h2; cases h2; exact h rfl)
theorem DAll.strs {H : Hp} : ∀ {ws : List Str} {vs : List V}, DAll G H vs (ws.map .str) → vs = ws.map .str
  | [], _, h => by cases h; rfl
  | w :: ws, _, h => by
    cases h with
    | cons h1 h2 =>
      cases h1
      rw [h2.strs]; rfl
theorem inV_strs {x : Str} : ∀ {ws : List Str}, inV (.str x) (ws.map V.str) = decide (x ∈ ws)
  | [] => by simp [inV]
  | w :: ws => by
    have ih : inV (.str x) (ws.map V.str) = decide (x ∈ ws) := inV_strs
    unfold inV at ih ⊢
    rw [List.map_cons, List.any_cons, ih]
    by_cases h : w = x
    · subst h; simp [eqV]
    · have h' : ¬ x = w := fun e => h e.symm
      simp [eqV, h, h']
theorem flat_strs (ws : List Str) : (ws.map V.str).all flatV = true := by
  rw [List.all_eq_true]; intro v hv
  obtain ⟨w, _, rfl⟩ := List.mem_map.mp hv; rfl
theorem rd_inW {x : Str} {ws : List Str} : RD2 G (rInU G) (.str x) (.tup (ws.map .str)) (.bl (decide (x ∈ ws))) := fun H u v Q hu hv q => .inl (.inl (by
  cases hu
  cases hv with
  | tup h1 h2 =>
    have e := h2.strs
    subst e
    refine ⟨_, _, rfl, .inr h1, rfl, flat_strs ws, ?_⟩
    rw [if_neg Bool.false_ne_true, inV_strs]
    exact q _ H (Same.refl H) (.bl _)))
theorem rd_inD {n : Nat} (hn : n ≤ 8) {ks vs : List D} (hk : kyd n (.tup ds) = true) : RD2 G (rInU G) (.tup ds) (.dct ks vs) (.bl (kix ks (key (.tup ds))).isSome) := fun H u v Q hu hv q => .inl (.inr (by
  obtain ⟨b, rfl⟩ : ∃ b, v = .ref b := by cases hv; exact ⟨_, rfl⟩
  exact ⟨.tup ds, b, ks, vs, isK_of hn hk hu, rfl, hv, by rw [if_neg Bool.false_ne_true]; exact q _ H (Same.refl H) (.bl _)⟩))
theorem rd_niD {n : Nat} (hn : n ≤ 8) {ks vs : List D} (hk : kyd n (.tup ds) = true) : RD2 G (rNiU G) (.tup ds) (.dct ks vs) (.bl (!(kix ks (key (.tup ds))).isSome)) := fun H u v Q hu hv q => .inl (.inr (by
  obtain ⟨b, rfl⟩ : ∃ b, v = .ref b := by cases hv; exact ⟨_, rfl⟩
  exact ⟨.tup ds, b, ks, vs, isK_of hn hk hu, rfl, hv, by rw [if_pos rfl]; exact q _ H (Same.refl H) (.bl _)⟩))
theorem any_eqv {n m : Nat} (hd : eqd n d = true) : ∀ {es : List D}, eqdAll m es = true → ((toPyAll es).any fun z => PyData.eqv z (toPy d)) = decide (d ∈ es)
  | [], _ => by simp [toPyAll]
  | e :: es, h => by
    rw [eqdAll, Bool.and_eq_true] at h
    rw [toPyAll, List.any_cons, any_eqv hd h.2]
    have e1 : PyData.eqv (toPy e) (toPy d) = decide (e = d) := Bool.eq_iff_iff.mpr (by rw [decide_eq_true_eq]; exact eqd_eqv e d m n h.1 hd)
    rw [e1]
    by_cases q : e = d
    · subst q; simp
    · have q' : ¬ d = e := fun r => q r.symm
      simp [q, q']
theorem rd_niL {n m : Nat} (hn : n ≤ 64) (hm : m + 1 ≤ 64) (hd : eqd n d = true) (he : eqdAll m es = true) : RD2 G (rNiU G) d (.lst es) (.bl (!decide (d ∈ es))) := fun H u v Q hu hv q => .inr (by
  have h2 : eqd (m + 1) (.lst es) = true := by rw [eqd]; exact he
  refine ⟨toPy d, toPyAll es, hu.dp (eqd_pln d n hd), ?_, eqd_shaped hd hn, ?_, ?_⟩
  · have := hv.dp (eqd_pln _ _ h2)
    rw [toPy] at this; exact this
  · have := eqd_shaped h2 hm
    rw [toPy] at this; exact this
  · rw [any_eqv hd he]; exact q _ H (Same.refl H) (.bl _))
/-! ### calls -/
theorem rc_lenT : RDC G (rLenU G) [.tup ds] (.int ds.length) := fun H vs Q h q => .inl (by
  cases h with
  | cons h1 h2 =>
    cases h2
    cases h1 with
    | tup k1 k2 => exact ⟨_, ds.length, rfl, .inr ⟨_, k1, k2.length.symm⟩, q _ H (Same.refl H) (.int _)⟩)
theorem rc_lenL : RDC G (rLenU G) [.lst ds] (.int ds.length) := fun H vs Q h q => .inl (by
  cases h with
  | cons h1 h2 =>
    cases h2
    cases h1 with
    | lst k1 k2 => exact ⟨_, ds.length, rfl, .inl ⟨_, k1, k2.length.symm⟩, q _ H (Same.refl H) (.int _)⟩)
theorem rc_lenD {ks vs : List D} : RDC G (rLenU G) [.dct ks vs] (.int ks.length) := fun H us Q h q => .inr (.inl (by
  cases h with
  | cons h1 h2 =>
    cases h2
    cases h1 with
    | dct k1 k2 k3 => exact ⟨_, ks, vs, rfl, .dct k1 k2 k3, q _ H (Same.refl H) (.int _)⟩))
theorem rc_tupL : RDC G (rTupU G) [.lst ds] (.tup ds) := fun H us Q h q => by
  cases h with
  | cons h1 h2 =>
    cases h2
    cases h1 with
    | lst k1 k2 => exact ⟨_, _, rfl, .inl ⟨k1, fun l hl => q _ _ (.new hl) (.tup (.inl (.inl upd_same)) (k2.mn (.new hl)))⟩⟩
theorem rc_min2 : RDC G rMinU [.int i, .int j] (.int (if j < i then j else i)) := fun H us Q h q => by
  cases h with
  | cons h1 h2 =>
    cases h1
    cases h2 with
    | cons h1 h2 => cases h1; cases h2; exact ⟨i, j, rfl, q _ H (Same.refl H) (.int _)⟩
theorem rc_max2 : RDC G rMaxU [.int i, .int j] (.int (if j > i then j else i)) := fun H us Q h q => by
  cases h with
  | cons h1 h2 =>
    cases h1
    cases h2 with
    | cons h1 h2 => cases h1; cases h2; exact ⟨i, j, rfl, q _ H (Same.refl H) (.int _)⟩
theorem DAll.bls {H : Hp} : ∀ {bs : List Bool} {vs : List V}, DAll G H vs (bs.map .bl) → vs = bs.map .bl
  | [], _, h => by cases h; rfl
  | w :: ws, _, h => by
    cases h with
    | cons h1 h2 =>
      cases h1
      rw [h2.bls]; rfl
theorem rc_all {bs : List Bool} : RDC G (rAll G.K) [.lst (bs.map .bl)] (.bl (bs.all id)) := fun H us Q h q => by
  cases h with
  | cons h1 h2 =>
    cases h2
    cases h1 with
    | lst k1 k2 =>
      have e := k2.bls
      subst e
      exact ⟨_, bs, rfl, k1, q _ H (Same.refl H) (.bl _)⟩
end
end K3

set_option Elab.async false
set_option linter.all false
set_option maxRecDepth 100000
set_option maxHeartbeats 2000000
/-! The limiters as plain data. -/
namespace K3
open PySem L2

inductive Pt where
  | bucket (n s : Int) | window (n s : Int) | slide (n s : Int) | gap (s : Int)
structure Lk where
  each : Bool
  p : Pt
structure Ch where
  rows : List Lk
  folk : Nat
  costly : Bool
inductive Ev where
  | tick | ask (c : Nat)
  deriving DecidableEq
def dPt : Pt → D
  | .bucket n s => .tup [.str "bucket", .int n, .int s]
  | .window n s => .tup [.str "window", .int n, .int s]
  | .slide n s => .tup [.str "slide", .int n, .int s]
  | .gap s => .tup [.str "gap", .int s]
def dLk (l : Lk) : D := .tup [.str (if l.each then "each" else "all"), dPt l.p]
def dCh (c : Ch) : D := .chn (.tup (c.rows.map dLk)) (c.folk : Int) c.costly
def dEv : Ev → D
  | .tick => .tup [.str "tick"]
  | .ask c => .tup [.str "ask", .int (c : Int)]
def dAn : Option Bool → D
  | none => .non
  | some b => .bl b
def evsOf (c : Ch) : List Ev := .tick :: (List.range c.folk).map .ask
def OkP : Pt → Prop
  | .bucket n s | .window n s | .slide n s => 1 ≤ n ∧ n ≤ 4 ∧ 1 ≤ s ∧ s ≤ 6
  | .gap s => 1 ≤ s ∧ s ≤ 6
structure OkC (c : Ch) : Prop where
  r1 : 1 ≤ c.rows.length
  r3 : c.rows.length ≤ 3
  ok : ∀ l ∈ c.rows, OkP l.p
  f1 : 1 ≤ c.folk
  f2 : c.folk ≤ 2
/-! ### one part -/
def firstP : Pt → D
  | .bucket n _ => .tup [.int n, .int 0]
  | .window _ _ => .tup [.int 0, .int 0]
  | .slide _ _ => .tup []
  | .gap _ => .int 0
def ageUp (s : Int) : D → Option D
  | .int a => if a + 1 < s then some (.int (a + 1)) else none
  | _ => none
def tickP : Pt → D → D
  | .bucket n s, .tup [.int a, .int b] => if b + 1 = s then .tup [.int (if a + 1 < n then a + 1 else n), .int 0] else .tup [.int a, .int (b + 1)]
  | .window _ s, .tup [.int a, .int b] => if b + 1 = s then .tup [.int 0, .int 0] else .tup [.int a, .int (b + 1)]
  | .slide _ s, .tup ds => .tup (ds.filterMap (ageUp s))
  | .gap _, .int a => .int (if 0 < a then a - 1 else 0)
  | _, d => d
def letsP : Pt → D → Bool
  | .bucket _ _, .tup [.int a, .int _] => decide (0 < a)
  | .window n _, .tup [.int a, .int _] => decide (a < n)
  | .slide n _, .tup ds => decide ((ds.length : Int) < n)
  | .gap _, .int a => decide (a = 0)
  | _, _ => false
def countP : Pt → D → D
  | .bucket _ _, .tup [.int a, .int b] => .tup [.int (a - 1), .int b]
  | .window _ _, .tup [.int a, .int b] => .tup [.int (a + 1), .int b]
  | .slide _ _, .tup ds => .tup (ds ++ [.int 0])
  | .gap s, _ => .int s
  | _, d => d
def WfP : Pt → D → Prop
  | .bucket n s, d | .window n s, d => ∃ a b : Int, d = .tup [.int a, .int b] ∧ 0 ≤ a ∧ a ≤ n ∧ 0 ≤ b ∧ b < s
  | .slide n s, d => ∃ as : List Int, d = .tup (as.map .int) ∧ (as.length : Int) ≤ n ∧ ∀ a ∈ as, 0 ≤ a ∧ a < s
  | .gap s, d => ∃ a, d = .int a ∧ 0 ≤ a ∧ a ≤ s
theorem wf_first {p : Pt} (h : OkP p) : WfP p (firstP p) := by
  cases p with
  | bucket n s => obtain ⟨h1, h2, h3, h4⟩ := h; exact ⟨n, 0, rfl, by omega, by omega, by omega, by omega⟩
  | window n s => obtain ⟨h1, h2, h3, h4⟩ := h; exact ⟨0, 0, rfl, by omega, by omega, by omega, by omega⟩
  | slide n s => obtain ⟨h1, h2, h3, h4⟩ := h; exact ⟨[], rfl, by simp; omega, fun a ha => by cases ha⟩
  | gap s => obtain ⟨h1, h2⟩ := h; exact ⟨0, rfl, by omega, by omega⟩
theorem ages_up {s : Int} : ∀ as : List Int, (as.map D.int).filterMap (ageUp s) = ((as.filter fun a => decide (a + 1 < s)).map (· + 1)).map D.int
  | [] => rfl
  | a :: as => by
    rw [List.map_cons, List.filterMap_cons]
    by_cases h : a + 1 < s
    · rw [List.filter_cons_of_pos (by simpa using h)]
      have e : ageUp s (.int a) = some (.int (a + 1)) := if_pos h
      rw [e, ages_up as]; rfl
    · rw [List.filter_cons_of_neg (by simpa using h)]
      have e : ageUp s (.int a) = none := if_neg h
      rw [e, ages_up as]
theorem wf_tick {p : Pt} {d : D} (h : OkP p) (w : WfP p d) : WfP p (tickP p d) := by
  cases p with
  | bucket n s =>
    obtain ⟨h1, h2, h3, h4⟩ := h
    obtain ⟨a, b, rfl, w1, w2, w3, w4⟩ := w
    show WfP _ (if b + 1 = s then _ else _)
    split
    · exact ⟨_, 0, rfl, by split <;> omega, by split <;> omega, by omega, by omega⟩
    · exact ⟨a, b + 1, rfl, by omega, by omega, by omega, by omega⟩
  | window n s =>
    obtain ⟨h1, h2, h3, h4⟩ := h
    obtain ⟨a, b, rfl, w1, w2, w3, w4⟩ := w
    show WfP _ (if b + 1 = s then _ else _)
    split
    · exact ⟨0, 0, rfl, by omega, by omega, by omega, by omega⟩
    · exact ⟨a, b + 1, rfl, by omega, by omega, by omega, by omega⟩
  | slide n s =>
    obtain ⟨as, rfl, w1, w2⟩ := w
    refine ⟨(as.filter fun a => decide (a + 1 < s)).map (· + 1), ?_, ?_, fun a ha => ?_⟩
    · show D.tup _ = _
      rw [ages_up]
    · rw [List.length_map]
      have := List.length_filter_le (fun a => decide (a + 1 < s)) as
      omega
    · obtain ⟨b, hb, rfl⟩ := List.mem_map.mp ha
      obtain ⟨hb1, hb2⟩ := List.mem_filter.mp hb
      have := w2 b hb1
      have := of_decide_eq_true hb2
      omega
  | gap s =>
    obtain ⟨h1, h2⟩ := h
    obtain ⟨a, rfl, w1, w2⟩ := w
    exact ⟨_, rfl, by split <;> omega, by split <;> omega⟩
theorem wf_count {p : Pt} {d : D} (h : OkP p) (w : WfP p d) (l : letsP p d = true) : WfP p (countP p d) := by
  cases p with
  | bucket n s =>
    obtain ⟨a, b, rfl, w1, w2, w3, w4⟩ := w
    have := of_decide_eq_true l
    exact ⟨a - 1, b, rfl, by omega, by omega, by omega, by omega⟩
  | window n s =>
    obtain ⟨a, b, rfl, w1, w2, w3, w4⟩ := w
    have := of_decide_eq_true l
    exact ⟨a + 1, b, rfl, by omega, by omega, by omega, by omega⟩
  | slide n s =>
    obtain ⟨h1, h2, h3, h4⟩ := h
    obtain ⟨as, rfl, w1, w2⟩ := w
    have := of_decide_eq_true l
    rw [List.length_map] at this
    refine ⟨as ++ [0], by show D.tup _ = _; simp, by simp; omega, fun a ha => ?_⟩
    rcases List.mem_append.mp ha with q | q
    · exact w2 a q
    · have e : a = 0 := by simpa using q
      omega
  | gap s =>
    obtain ⟨h1, h2⟩ := h
    exact ⟨s, rfl, by omega, by omega⟩
theorem kyd_ints {n : Nat} : ∀ as : List Int, kydAll n (as.map .int) = true
  | [] => rfl
  | a :: as => by rw [List.map_cons, kydAll, kyd_ints as]; cases n <;> rfl
theorem wf_kyd {p : Pt} {d : D} (w : WfP p d) : kyd 1 d = true := by
  cases p with
  | bucket n s => obtain ⟨a, b, rfl, _⟩ := w; rfl
  | window n s => obtain ⟨a, b, rfl, _⟩ := w; rfl
  | slide n s => obtain ⟨as, rfl, _⟩ := w; rw [kyd]; exact kyd_ints as
  | gap s => obtain ⟨a, rfl, _⟩ := w; rfl
/-! ### a link -/
def dAt (ds : List D) (i : Nat) : D := ds.getD i .non
def firstL (folk : Nat) (l : Lk) : D := if l.each then .tup (List.replicate folk (firstP l.p)) else firstP l.p
def mapT (f : D → D) : D → D
  | .tup ds => .tup (ds.map f)
  | d => d
def unT : D → List D
  | .tup ds => ds
  | _ => []
def tickL (l : Lk) (d : D) : D := if l.each then mapT (tickP l.p) d else tickP l.p d
def letsL (l : Lk) (c : Nat) (d : D) : Bool := letsP l.p (if l.each then dAt (unT d) c else d)
def countL (l : Lk) (c : Nat) (d : D) : D := if l.each then .tup ((unT d).set c (countP l.p (dAt (unT d) c))) else countP l.p d
def WfL (folk : Nat) (l : Lk) (d : D) : Prop := if l.each then ∃ ds, d = .tup ds ∧ ds.length = folk ∧ ∀ x ∈ ds, WfP l.p x else WfP l.p d
theorem wfL_first {folk : Nat} {l : Lk} (h : OkP l.p) : WfL folk l (firstL folk l) := by
  unfold WfL firstL
  cases l.each with
  | true => exact ⟨_, rfl, List.length_replicate, fun x hx => by rw [(List.mem_replicate.mp hx).2]; exact wf_first h⟩
  | false => exact wf_first h
theorem wfL_tick {folk : Nat} {l : Lk} {d : D} (h : OkP l.p) (w : WfL folk l d) : WfL folk l (tickL l d) := by
  unfold WfL at w ⊢
  unfold tickL
  cases e : l.each with
  | true =>
    rw [e] at w
    obtain ⟨ds, rfl, hl, hw⟩ := w
    refine ⟨ds.map (tickP l.p), rfl, by rw [List.length_map, hl], fun x hx => ?_⟩
    obtain ⟨y, hy, rfl⟩ := List.mem_map.mp hx
    exact wf_tick h (hw y hy)
  | false => rw [e] at w; exact wf_tick h w
theorem mem_dAt {ds : List D} {c : Nat} (h : c < ds.length) : dAt ds c ∈ ds := by
  unfold dAt
  rw [List.getD_eq_getElem?_getD, List.getElem?_eq_getElem h]
  exact List.getElem_mem h
theorem wfL_count {folk c : Nat} {l : Lk} {d : D} (h : OkP l.p) (hc : c < folk) (w : WfL folk l d) (t : letsL l c d = true) : WfL folk l (countL l c d) := by
  unfold WfL at w ⊢
  unfold letsL at t
  unfold countL
  cases e : l.each with
  | true =>
    rw [e] at w t
    obtain ⟨ds, rfl, hl, hw⟩ := w
    refine ⟨_, rfl, by rw [List.length_set]; exact hl, fun x hx => ?_⟩
    rcases List.mem_or_eq_of_mem_set hx with q | q
    · exact hw x q
    · rw [q]; exact wf_count h (hw _ (mem_dAt (by show c < ds.length; omega))) t
  | false => rw [e] at w t; exact wf_count h w t
theorem wfL_kyd {folk : Nat} {l : Lk} {d : D} (w : WfL folk l d) : kyd 2 d = true := by
  unfold WfL at w
  cases e : l.each with
  | true =>
    rw [e] at w
    obtain ⟨ds, rfl, hl, hw⟩ := w
    rw [kyd]
    exact kydAll_iff.mpr fun x hx => wf_kyd (hw x hx)
  | false =>
    rw [e] at w
    cases hp : l.p with
    | bucket n s => rw [hp] at w; obtain ⟨a, b, rfl, _⟩ := w; rfl
    | window n s => rw [hp] at w; obtain ⟨a, b, rfl, _⟩ := w; rfl
    | slide n s => rw [hp] at w; obtain ⟨as, rfl, _⟩ := w; rw [kyd]; exact kyd_ints as
    | gap s => rw [hp] at w; obtain ⟨a, rfl, _⟩ := w; rfl
/-! ### the states -/
def WfR (folk : Nat) : List Lk → List D → Prop
  | [], [] => True
  | l :: ls, d :: ds => WfL folk l d ∧ WfR folk ls ds
  | _, _ => False
def tickR : List Lk → List D → List D
  | l :: ls, d :: ds => tickL l d :: tickR ls ds
  | _, _ => []
def askR : List Lk → Nat → List D → Bool × List D
  | l :: ls, c, d :: ds => if letsL l c d = true then ((askR ls c ds).1, countL l c d :: (askR ls c ds).2) else (false, d :: ds)
  | _, _, ds => (true, ds)
def WfS (c : Ch) (d : D) : Prop := ∃ ds, d = .tup ds ∧ WfR c.folk c.rows ds
def firstS (c : Ch) : D := .tup (c.rows.map (firstL c.folk))
def tickS (c : Ch) (d : D) : D := .tup (tickR c.rows (unT d))
def askS (c : Ch) (k : Nat) (d : D) : Bool × D := ((askR c.rows k (unT d)).1, if ((askR c.rows k (unT d)).1 || c.costly) = true then .tup (askR c.rows k (unT d)).2 else d)
def step (c : Ch) (d : D) : Ev → Option Bool × D
  | .tick => (none, tickS c d)
  | .ask k => (some (askS c k d).1, (askS c k d).2)
section
variable {folk k : Nat} {ls : List Lk} {ds : List D} {c : Ch} {d : D}
theorem WfR.length : ∀ {ls : List Lk} {ds : List D}, WfR folk ls ds → ds.length = ls.length
  | [], [], _ => rfl
  | _ :: _, _ :: _, h => by rw [List.length_cons, List.length_cons, h.2.length]
theorem WfR.get : ∀ {ls : List Lk} {ds : List D} {i : Nat} {l : Lk}, WfR folk ls ds → ls[i]? = some l → ∃ d, ds[i]? = some d ∧ WfL folk l d
  | _ :: _, _ :: _, 0, _, h, e => by
    simp only [List.getElem?_cons_zero, Option.some.injEq] at e
    subst e
    exact ⟨_, rfl, h.1⟩
  | _ :: _, _ :: _, i + 1, l, h, e => by
    obtain ⟨d, h1, h2⟩ := h.2.get (i := i) (l := l) (by simpa using e)
    exact ⟨d, by simpa using h1, h2⟩
  | [], [], _, _, _, e => by simp at e
theorem wfR_tick : ∀ {ls : List Lk} {ds : List D}, (∀ l ∈ ls, OkP l.p) → WfR folk ls ds → WfR folk ls (tickR ls ds)
  | [], [], _, _ => trivial
  | l :: ls, d :: ds, h, w => ⟨wfL_tick (h l List.mem_cons_self) w.1, wfR_tick (fun x hx => h x (List.mem_cons_of_mem _ hx)) w.2⟩
theorem wfR_ask (hk : k < folk) : ∀ {ls : List Lk} {ds : List D}, (∀ l ∈ ls, OkP l.p) → WfR folk ls ds → WfR folk ls (askR ls k ds).2
  | [], [], _, _ => trivial
  | l :: ls, d :: ds, h, w => by
    unfold askR
    by_cases e : letsL l k d = true
    · rw [if_pos e]
      exact ⟨wfL_count (h l List.mem_cons_self) hk w.1 e, wfR_ask hk (fun x hx => h x (List.mem_cons_of_mem _ hx)) w.2⟩
    · rw [if_neg e]
      exact w
theorem wfR_first : ∀ {ls : List Lk}, (∀ l ∈ ls, OkP l.p) → WfR folk ls (ls.map (firstL folk))
  | [], _ => trivial
  | l :: ls, h => ⟨wfL_first (h l List.mem_cons_self), wfR_first fun x hx => h x (List.mem_cons_of_mem _ hx)⟩
theorem wf_firstS (o : OkC c) : WfS c (firstS c) := ⟨_, rfl, wfR_first o.ok⟩
theorem mem_evs {e : Ev} : e ∈ evsOf c ↔ e = .tick ∨ ∃ k, k < c.folk ∧ e = .ask k := by
  unfold evsOf
  rw [List.mem_cons, List.mem_map]
  constructor
  · rintro (h | ⟨k, h1, h2⟩)
    · exact .inl h
    · exact .inr ⟨k, List.mem_range.mp h1, h2.symm⟩
  · rintro (h | ⟨k, h1, h2⟩)
    · exact .inl h
    · exact .inr ⟨k, List.mem_range.mpr h1, h2.symm⟩
theorem wf_step (o : OkC c) (w : WfS c d) {e : Ev} (he : e ∈ evsOf c) : WfS c (step c d e).2 := by
  obtain ⟨ds, rfl, w⟩ := w
  rcases mem_evs.mp he with rfl | ⟨k, hk, rfl⟩
  · exact ⟨_, rfl, wfR_tick o.ok w⟩
  · show WfS c (if _ then _ else _)
    split
    · exact ⟨_, rfl, wfR_ask hk o.ok w⟩
    · exact ⟨ds, rfl, w⟩
theorem wfR_kyd : ∀ {ls : List Lk} {ds : List D}, WfR folk ls ds → kydAll 2 ds = true
  | [], [], _ => rfl
  | l :: ls, d :: ds, w => by rw [kydAll, wfL_kyd w.1, wfR_kyd w.2]; rfl
theorem wfS_kyd (w : WfS c d) : kyd 3 d = true := by
  obtain ⟨ds, rfl, w⟩ := w
  rw [kyd]; exact wfR_kyd w
theorem sok_tick : PyData.strOk "tick" = true := by decide +kernel
theorem sok_ask : PyData.strOk "ask" = true := by decide +kernel
theorem kyd_ev (e : Ev) : kyd 1 (dEv e) = true := by
  cases e with
  | tick => rw [dEv, kyd, kydAll, kydAll, kyd, sok_tick]; rfl
  | ask k => rw [dEv, kyd, kydAll, kydAll, kydAll, kyd, kyd, sok_ask]; rfl
theorem ev_inj {e f : Ev} (h : dEv e = dEv f) : e = f := by
  cases e <;> cases f <;> simp [dEv] at h ⊢
  exact Int.ofNat.inj h
end
end K3

set_option Elab.async false
set_option linter.all false
set_option maxRecDepth 100000
set_option maxHeartbeats 2000000
/-! What the walks lean on. -/
namespace K3
open PySem PySem.Spec PyProof.Rows L2 He

abbrev XX (P : Program) (w : World) (K : PySem.W.Frag) (mg : Str → Option Value) (base : Heap) (d : DefM) (N : List Str) (f : Addr) (cdv : Value) (A : Around) (outer : List Env) (s : Shared) (H : Hp) (E : XK) : Cx :=
  (cxOf C8.CX0 P w K mg base N d.qual (defScope d.st) f cdv A outer s H E).nox
/-- a property of the class at C -/
structure Prp (P : Program) (w : World) (K : PySem.W.Frag) (mg : Str → Option Value) (base : Heap) (k : Nat) (C : Addr) (x : Str) (sp : Sp) : Prop where
  ex : ∃ (p g : Addr) (fd : FuncData) (ps : List Str), Cls K C ∧ PropOf K C x p g ∧ FnOk P w K mg base C8.CX0 k g fd ps sp ∧ Binds K fd ps []
/-- a class made by one value and two keywords -/
structure MakK (P : Program) (w : World) (K : PySem.W.Frag) (mg : Str → Option Value) (base : Heap) (k : Nat) (x : Str) (C : Addr) (sp : Sp) : Prop where
  ex : ∃ (f : Addr) (fd : FuncData) (ps : List Str) (g : List Value → List Value → List Value), Mk K C f ∧ FnOk P w K mg base C8.CX0 k f fd ps sp ∧ mg x = some (.ref C) ∧ KBn K fd ps 2 ["callers", "charges"] g (fun vs zs => vs ++ zs)
def HasV (mg : Str → Option Value) (x : Str) (v : V) : Prop := ∃ u, mg x = some u ∧ RelV v u
/-- the facts of the module's top -/
structure Ft (P : Program) (w : World) (K : PySem.W.Frag) (mg : Str → Option Value) (base : Heap) (C CC aS aT : Addr) : Prop where
  isinstance : mg "isinstance" = none
  len : mg "len" = none
  all : mg "all" = none
  range : mg "range" = none
  zip : mg "zip" = none
  enumerate : mg "enumerate" = none
  min : mg "min" = none
  max : mg "max" = none
  int : mg "int" = none
  bool : mg "bool" = none
  str : mg "str" = none
  tuple : mg "tuple" = none
  list : mg "list" = none
  dict : mg "dict" = none
  MAX_LIMIT : HasV mg "MAX_LIMIT" (.int 4)
  MAX_SPAN : HasV mg "MAX_SPAN" (.int 6)
  MAX_LINKS : HasV mg "MAX_LINKS" (.int 3)
  MAX_CALLERS : HasV mg "MAX_CALLERS" (.int 2)
  MAX_STATES : HasV mg "MAX_STATES" (.int 60)
  SCOPES : HasV mg "SCOPES" (.ref aS)
  TICK : HasV mg "TICK" (.ref aT)
  Chain : HasV mg "Chain" (.ref C)
  insC : C8.InsC K C
  clsCC : Cls K CC
  links : Prp P w K mg base 1 C "links" (getSp C "rows")
  callers : Prp P w K mg base 1 C "callers" (getSp C "folk")
  charges : Prp P w K mg base 1 C "charges" (getSp C "costly")
  nRows : NoAttr K C "rows"
  nFolk : NoAttr K C "folk"
  nCostly : NoAttr K C "costly"
  nClasses : NoAttr K CC "classes"
  nDoubts : NoAttr K CC "doubts"
  scopes : ∀ H : Hp, SqT K H aS [.str "all", .str "each"]
  tick : ∀ H : Hp, SqT K H aT [.str "tick"]
section
variable {X : Cx} {k j : Nat} {C : Addr} {x f : Str} {sp : Sp} {p pos : Pos} {e : Expr} {es : List Expr} {ta : TE} {t tk : TA} {kws : List Keyword}
theorem pe_pr (he : PE X e ta) (F : Prp X.prog X.w X.K X.mg X.base k C f sp) (hr : Room j X.A) (hk : k + 1 ≤ j) (hab : attributeBase e f X.env (eval e X.env) = eval e X.env) : PE X (.Attribute e f pos) (tProp C sp [] C8.E0 ta) := by
  obtain ⟨pr, g, fd, ps, hc, hp, F, b⟩ := F.ex
  exact pe_prop he hc hp F (hr.mono hk) b .nil C8.pass0 hab
theorem pe_mkK (c : MakK X.prog X.w X.K X.mg X.base k x C sp) (hr : Room j X.A) (hk : k + 1 ≤ j) (hg : Gl X x) (ha : PA X (e :: es) t) (hkw : PK X kws tk)
    (hall : (backToKw pos (keywordEach kws X.env)).all (·.1.isSome) = true := by rfl) (hks : (backToKw pos (keywordEach kws X.env)).filterMap (·.1) = (["callers", "charges"] : List Str) := by rfl) (hdb : (x == ("__debug__" : Str)) = false := by decide)
    (he : starEach (e :: es) X.env = (false, eval e X.env) :: starEach es X.env := by rfl) (hpl : ((backTo pos (starEach (e :: es) X.env)).any (·.1) || (backToKw pos (keywordEach kws X.env)).any (·.1.isNone)) = false := by rfl) :
    PE X (.Call (.Name x p) (e :: es) kws pos) (tMakeK C 1 2 sp (fun vs zs => vs ++ zs) C8.E0 t tk) := by
  obtain ⟨f, fd, ps, g, M, F, hm, b⟩ := c.ex
  exact pe_makeK M F (hr.mono hk) hg hm b C8.pass0 ha hkw hall hks hdb he hpl
end
def rDictP (K : PySem.W.Frag) : List V → Hp → VK → Prop := fun xs H Q => ∃ (a : Addr) (ps : List Addr) (kvs : List (Key × V)), xs = [.ref a] ∧ SqL K H a (ps.map V.ref) ∧ Paired (fun p kv => SqT K H p [kV kv.1, kv.2]) ps kvs ∧ ∀ p, H p = none → Q (.ref p) (upd H p (.dK (mergeK [] kvs)))
theorem call_dictPU {X : Cx} (hc : X.calm = true) : CallR X (.type "dict") (rDictP X.K) := call_dictP hc
end K3

set_option Elab.async false
set_option linter.all false
set_option maxRecDepth 100000
set_option maxHeartbeats 2000000
/-! What a body returns, told by data. -/
namespace K3
open PySem PySem.Spec PyProof.Rows L2 He

/-- the body returns r, whatever is wanted of it -/
def SRet (G : Gs) (t : TS) (σ : L2.St) (H : Hp) (r : D) : Prop := ∀ (Dd : Ends) H1, Same H H1 → (∀ v H', Same H1 H' → DAt G H' v r → Dd.rt v H') → t Dd σ H1
section
variable {G : Gs} {σ : L2.St} {H H' : Hp} {te ta tb : TE} {tt : TT} {t u z : TS} {r d : D} {b : Bool}
theorem SRet.mono (s : Same H H') (h : SRet G t σ H r) : SRet G t σ H' r := fun Dd H1 a q => h Dd H1 (s.trans a) q
theorem SRet.is {r' : D} (h : SRet G t σ H r) (e : r = r') : SRet G t σ H r' := e ▸ h
theorem sr_ret (h : Ed G te σ H r) : SRet G (tRet te) σ H r := fun Dd H1 s q => h H1 s _ fun v H2 s2 dv => q v H2 s2 dv
theorem sr_seq (h : SRet G t σ H r) : SRet G (tSeq t z) σ H r := fun Dd H1 s q => h { Dd with nx := z Dd } H1 s q
theorem sr_if (h : EdT tt σ H b) (h1 : b = true → SRet G t σ H r) (h2 : b = false → SRet G u σ H r) : SRet G (tIfS tt t u) σ H r := fun Dd H1 s q => h H1 s _ fun H2 s2 => by
  cases b with
  | true => exact iteT (h1 rfl Dd H2 (Same.trans s s2) fun v H3 s3 dv => q v H3 (Same.trans s2 s3) dv)
  | false => exact iteF (h2 rfl Dd H2 (Same.trans s s2) fun v H3 s3 dv => q v H3 (Same.trans s2 s3) dv)
/-- if c: return ..; the rest -/
theorem sr_when (h : EdT tt σ H b) (h1 : b = true → SRet G t σ H r) (h2 : b = false → SRet G z σ H r) : SRet G (tSeq (tIfS tt t tNext) z) σ H r := fun Dd H1 s q => h H1 s _ fun H2 s2 => by
  cases b with
  | true => exact iteT (h1 rfl { Dd with nx := z Dd } H2 (Same.trans s s2) fun v H3 s3 dv => q v H3 (Same.trans s2 s3) dv)
  | false => exact iteF (h2 rfl Dd H2 (Same.trans s s2) fun v H3 s3 dv => q v H3 (Same.trans s2 s3) dv)
theorem sr_asg {i : Nat} (h : Ed G te σ H d) (k : ∀ v H1, Same H H1 → DAt G H1 v d → SRet G z (σ.set i (some v)) H1 r) : SRet G (tSeq (tAsg te (gName i)) z) σ H r := fun Dd H1 s q =>
  h H1 s _ fun v H2 s2 dv => k v H2 (s.trans s2) dv Dd H2 (Same.refl H2) fun w H3 s3 dw => q w H3 (s2.trans s3) dw
theorem sr_par {i j : Nat} {ts : TA} {e : D} (h : EdA G ts σ H [d, e]) (k : ∀ v w H1, Same H H1 → DAt G H1 v d → DAt G H1 w e → SRet G z ((σ.set i (some v)).set j (some w)) H1 r) : SRet G (tSeq (tPar i j ts) z) σ H r := fun Dd H1 s q =>
  h H1 s _ fun vs H2 s2 da => by
    obtain ⟨v, w, rfl, dv, dw⟩ := two_of da
    exact ⟨v, w, rfl, k v w H2 (s.trans s2) dv dw Dd H2 (Same.refl H2) fun x H3 s3 dx => q x H3 (s2.trans s3) dx⟩
/-- a, b = e -/
theorem sr_asg2 {i j : Nat} {e : D} (h : Ed G te σ H (.tup [d, e])) (k : ∀ v w H1, Same H H1 → DAt G H1 v d → DAt G H1 w e → SRet G z ((σ.set i (some v)).set j (some w)) H1 r) :
    SRet G (tSeq (tAsg te (gTup G.K 2 (gCons (gName i) (gCons (gName j) gNil)))) z) σ H r := fun Dd H1 s q =>
  h H1 s _ fun x H2 s2 dx => by
    cases dx with
    | tup h1 h2 =>
      obtain ⟨v, w, rfl, dv, dw⟩ := two_of h2
      exact ⟨_, _, rfl, h1, rfl, v, _, rfl, w, _, rfl, rfl, k v w H2 (s.trans s2) dv dw Dd H2 (Same.refl H2) fun x H3 s3 dx => q x H3 (s2.trans s3) dx⟩
theorem sr_match {tv : V → TS} {x : Str} (h : Ed G te σ H (.str x)) (k : SRet G (tv (.str x)) σ H r) : SRet G (tM te tv) σ H r := fun Dd H1 s q =>
  h H1 s _ fun v H2 s2 dv => by
    cases dv
    exact k Dd H2 (s.trans s2) fun x H3 s3 dx => q x H3 (s2.trans s3) dx
theorem sr_hit {x : Str} {tb : TS} {tr : V → TS} (k : SRet G tb σ H r) : SRet G (tCase x tb tr (.str x)) σ H r := fun Dd H1 s q => ⟨x, rfl, by rw [if_pos rfl]; exact k Dd H1 s q⟩
theorem sr_miss {x y : Str} {tb : TS} {tr : V → TS} (h : y ≠ x) (k : SRet G (tr (.str y)) σ H r) : SRet G (tCase x tb tr (.str y)) σ H r := fun Dd H1 s q => ⟨y, rfl, by rw [if_neg h]; exact k Dd H1 s q⟩
/-- a match none of whose cases fits, the rest -/
theorem sr_matchN {tv : V → TS} {x : Str} (h : Ed G te σ H (.str x)) (hn : ∀ Dd σ' H', Dd.nx σ' H' → tv (.str x) Dd σ' H') (k : SRet G z σ H r) : SRet G (tSeq (tM te tv) z) σ H r := fun Dd H1 s q =>
  h H1 s _ fun v H2 s2 dv => by
    cases dv
    exact hn _ σ H2 (k Dd H2 (s.trans s2) fun x H3 s3 dx => q x H3 (s2.trans s3) dx)
theorem miss_nx {x y : Str} {tb : TS} {tr : V → TS} (h : y ≠ x) (k : ∀ Dd σ' H', Dd.nx σ' H' → tr (.str y) Dd σ' H') : ∀ Dd σ' H', Dd.nx σ' H' → tCase x tb tr (.str y) Dd σ' H' := fun Dd σ' H' q => ⟨y, rfl, by rw [if_neg h]; exact k Dd σ' H' q⟩
end

/-! ### a def of data -/
theorem len_start {N : List Str} {vs : List V} : start N vs = vs.map some ++ List.replicate (N.length - vs.length) none := rfl
/-- a def whose walk and whose answer are told -/
theorem cal_of {P : Program} {w : World} {K : PySem.W.Frag} {mg : Str → Option Value} {base : Heap} {C : Addr} {d : DefM} {fd : FuncData} {N ps : List Str} {k : Nat} {dom : List D → D → Prop} {t : Cx → TS} (Fd : FunM K d fd) (S : FnScope N ps (defScope d.st)) (b : Binds K fd ps []) (hm : mg d.name = some (.ref (d.adr K)))
    (len : ∀ ds r, dom ds r → ds.length = ps.length)
    (walk : ∀ (cdv : Value) (A : Around) (outer : List Env) (s : Shared) (H : Hp) (E : XK), Room k (XX P w K mg base d N (d.adr K) cdv A outer s H E).A → PSs (XX P w K mg base d N (d.adr K) cdv A outer s H E) (defBody d.st) (t (XX P w K mg base d N (d.adr K) cdv A outer s H E)))
    (pure : ∀ (X : Cx), X.prog = P → X.w = w → X.K = K → ∀ ds r vs H, dom ds r → DAll (gs X C) H vs ds → SRet (gs X C) (t X) (start N vs) H r) :
    C8.Cal P w K mg base (k + 1) d.name (spD ⟨P, w, K, C⟩ dom) [] := by
  refine ⟨d.adr K, fd, ps, [], ?_, hm, Fd.kp, b, .nil⟩
  refine Fd.ok S (fun vs H Q E h => ?_) (fun cdv A outer s H vs Q E hr h => ?_)
  · obtain ⟨ds, r, h1, h2, _⟩ := h
    rw [h1.length, len ds r h2]
  · obtain ⟨ds, r, h1, h2, q⟩ := h
    refine ⟨_, (walk cdv A outer s H E hr).nox, ?_⟩
    exact pure (XX P w K mg base d N (d.adr K) cdv A outer s H E) rfl rfl rfl ds r vs H h2 h1 { nx := fun _ H' => Q .non H', rt := Q } H (Same.refl H) q

/-! ### isinstance -/
/-- the type's name of plain data -/
def tyN : D → Option String
  | .int _ => some "int"
  | .bl _ => some "bool"
  | .str _ => some "str"
  | .tup _ => some "tuple"
  | _ => none
section
variable {G : Gs} {σ : L2.St} {H : Hp} {te ta tb tl : TE} {tt : TT} {d : D} {ds : List D}
theorem ty_of {H : Hp} {v : V} {n : String} (h : DAt G H v d) (e : tyN d = some n) : TyX G.K H v (.type n) := by
  cases h with
  | int i => cases e; exact .base (.int _)
  | bl b => cases e; exact .base (.bl _)
  | str x => cases e; exact .base (.str _)
  | tup a b =>
    cases e
    rcases a with (a | ⟨o, a⟩) | ⟨o, its, n, lk, hc, _⟩
    · exact .base (.tup a)
    · exact .fTuple a
    · exact .kTuple lk hc
  | _ => cases e
theorem ed_isi {n m : String} {b : Bool} (h : Ed G te σ H d) (e : tyN d = some n) (hk : kitB n m = some b) : Ed G (tCB (rIsiU G) (tCons te (tCons (tC (.ty m)) tNil))) σ H (.bl b) := fun H1 s Q q =>
  h H1 s _ fun v H2 s2 dv => .inl ⟨v, .ty m, .type n, .type m, b, rfl, .ty m, ty_of dv e, kit_ty hk, q _ H2 s2 (.bl _)⟩
theorem ed_isC {r : D} {f : Int} {c : Bool} (h : Ed G te σ H (.chn r f c)) : Ed G (tCB (rIsiU G) (tCons te (tCons (tC (.ref G.C)) tNil))) σ H (.bl true) := fun H1 s Q q =>
  h H1 s _ fun v H2 s2 dv => by
    cases dv with
    | chn h1 h2 => exact .inr ⟨_, _, _, rfl, h1, q _ H2 s2 (.bl _)⟩
theorem rd_niI {i : Int} {js : List Int} : RD2 G (rNiU G) (.int i) (.tup (js.map .int)) (.bl (!decide (i ∈ js))) := fun H u v Q hu hv q => .inl (.inl (by
  cases hu
  cases hv with
  | tup h1 h2 =>
    have e : ∀ (js : List Int) (vs : List V), DAll G H vs (js.map .int) → vs = js.map .int := fun js => by
      induction js with
      | nil => intro vs h; cases h; rfl
      | cons j js ih =>
        intro vs h
        cases h with
        | cons a b => cases a; rw [ih _ b]; rfl
    have e := e js _ h2
    subst e
    have e2 : ∀ js : List Int, inV (.int i) (js.map V.int) = decide (i ∈ js) := fun js => by
      induction js with
      | nil => simp [inV]
      | cons j js ih =>
        unfold inV at ih ⊢
        rw [List.map_cons, List.any_cons, ih]
        by_cases h : j = i
        · subst h; simp [eqV]
        · have h' : ¬ i = j := fun e => h e.symm
          simp [eqV, h, h']
    refine ⟨_, _, rfl, .inr h1, rfl, by rw [List.all_eq_true]; intro v hv; obtain ⟨w, _, rfl⟩ := List.mem_map.mp hv; rfl, ?_⟩
    rw [if_pos rfl, e2]
    exact q _ H (Same.refl H) (.bl _)))
theorem ed_chain {r r' : R2} {tc : TE} {x y z : D} {b c : Bool} (ha : Ed G ta σ H x) (hb : Ed G tb σ H y) (hc : Ed G tc σ H z) (h1 : RD2 G r x y (.bl b)) (h2 : RD2 G r' y z (.bl c)) : Ed G (tChain r r' ta tb tc) σ H (.bl (b && c)) := fun H1 s Q q =>
  ha H1 s _ fun u H2 s2 du => hb H2 (s.trans s2) _ fun v H3 s3 dv => h1 H3 u v _ (du.mn s3) dv fun w H4 s4 dw => by
    cases dw
    refine ⟨b, rfl, ?_⟩
    cases b with
    | true =>
      refine iteT ?_
      exact hc H4 ((s.trans s2).trans (s3.trans s4)) _ fun w H5 s5 dw => h2 H5 v w Q (dv.mn (s4.trans s5)) dw fun x H6 s6 dx => q x H6 ((s2.trans s3).trans (s4.trans (s5.trans s6))) dx
    | false => exact iteF (q _ H4 ((s2.trans s3).trans s4) (.bl _))
/-! ### comprehensions -/
/-- one turn: what the element gives -/
def CTurn (G : Gs) (g : TG) (tt : TT) (te : TE) (vs : List Nat) (σ : L2.St) (H : Hp) (x : V) (r : Option D) : Prop := ∀ H1, Same H H1 → ∀ Q : L2.St → Hp → Prop, (∀ σ2, wipe σ2 vs = wipe σ vs → EdT tt σ2 H1 r.isSome → (∀ d, r = some d → Ed G te σ2 H1 d) → Q σ2 H1) → g x (wipe σ vs) H1 Q
theorem ct_name {j : Nat} {vs : List Nat} {x : V} {r : Option D} (hw : wipe ((wipe σ vs).set j (some x)) vs = wipe σ vs) (h1 : EdT tt ((wipe σ vs).set j (some x)) H r.isSome) (h2 : ∀ d, r = some d → Ed G te ((wipe σ vs).set j (some x)) H d) : CTurn G (gName j) tt te vs σ H x r :=
  fun H1 s Q q => q _ hw (h1.mono s) fun d e => (h2 d e).mono s
theorem et_yes : EdT tYes σ H true := fun H1 _ Q q => q H1 (Same.refl H1)
/-- what stands behind i turns -/
def CInv (G : Gs) (H : Hp) (l : Addr) (rs : List D) (H' : Hp) : Prop := H l = none ∧ Same H H' ∧ ∃ vs, H' l = some (.lst vs) ∧ DAll G H' vs rs
theorem ct_run {g : TG} {vs : List Nat} {x : V} {r : Option D} {l : Addr} {rs : List D} {H' : Hp} {Nx : Hp → Prop} (ht : CTurn G g tt te vs σ H x r) (p : CInv G H l rs H') (hz : rs.length < 100000) (im : immAll rs = true) (imr : ∀ d, r = some d → imm d = true)
    (hn : ∀ H2, CInv G H l (rs ++ r.toList) H2 → Nx H2) :
    g x (wipe σ vs) H' fun σ2 H2 => wipe σ2 vs = wipe σ vs ∧ tt σ2 H2 fun b H3 => if b = true then te σ2 H3 fun y H4 => ∃ acc, H4 l = some (.lst acc) ∧ acc.length < sizeLine ∧ Nx (upd H4 l (.lst (acc ++ [y]))) else Nx H3 := by
  obtain ⟨p1, p2, acc, p3, p4⟩ := p
  refine ht H' p2 _ fun σ2 hw h1 h2 => ⟨hw, h1 H' (Same.refl H') _ fun H3 s3 => ?_⟩
  cases r with
  | none => exact iteF (hn H3 ⟨p1, p2.trans s3, acc, s3 l _ p3, by rw [Option.toList_none, List.append_nil]; exact p4.mn s3⟩)
  | some d =>
    refine iteT (h2 d rfl H3 s3 _ fun y H4 s4 dy => ⟨acc, s4 l _ (s3 l _ p3), Evl.sz_lt (by rw [p4.length]; exact hz), ?_⟩)
    have e4 : H4 l = some (.lst acc) := s4 l _ (s3 l _ p3)
    have le : Le H4 (upd H4 l (.lst (acc ++ [y]))) := .wr fun u e f => by rw [e4] at e; cases e; exact f
    exact hn _ ⟨p1, (p2.trans (Same.trans s3 s4)).mut p1, _, upd_same, ((p4.mn (Same.trans s3 s4)).snoc dy).lm (by rw [immAll_append, im]; simp [immAll, imr d rfl]) le⟩
theorem filterMap_take {F : D → Option D} {ds : List D} {i : Nat} {d : D} (h : ds[i]? = some d) : (ds.take (i + 1)).filterMap F = (ds.take i).filterMap F ++ (F d).toList := by
  rw [List.take_add_one, List.filterMap_append, h]
  cases e : F d <;> simp [e]
theorem immAll_fm {F : D → Option D} {ds : List D} (h : ∀ d ∈ ds, ∀ r, F d = some r → imm r = true) (i : Nat) : immAll ((ds.take i).filterMap F) = true := immAll_iff.mpr fun r hr => by
  obtain ⟨d, hd, e⟩ := List.mem_filterMap.mp hr
  exact h d (List.mem_of_mem_take hd) r e
theorem ed_lcT {g : TG} {vs : List Nat} (F : D → Option D) (hz : ds.length ≤ 40000) (h : Ed G tl σ H (.tup ds)) (him : immAll ds = true) (hi : ∀ d ∈ ds, ∀ r, F d = some r → imm r = true)
    (ht : ∀ d ∈ ds, ∀ x H1, Same H H1 → DAt G H1 x d → CTurn G g tt te vs σ H1 x (F d)) : EdN G (tLc (iTup G.K tl) g tt te vs) σ H (ds.filterMap F) := fun H0 s0 Q q =>
  h H0 s0 _ fun v H1 s1 dv => by
    cases dv with
    | @tup a xs _ h1 h2 =>
      refine ⟨a, rfl, ⟨xs, h1⟩, fun l hl => ?_⟩
      have base : Same H1 (upd H1 l (.lst [])) := .new hl
      refine lc_tup (xs := xs) (fun i H' => CInv G H1 l ((ds.take i).filterMap F) H') ⟨hl, base, [], upd_same, by simp; exact .nil⟩ (fun i H' _ p => p.2.1.tp h1) (fun i x H' hx p => ?_) (fun H' p => ?_)
      · obtain ⟨d, hd, dx⟩ := h2.getV hx
        have hm := List.mem_of_getElem? hd
        refine ct_run ((ht d hm x H1 (s0.trans s1) dx)) p ?_ (immAll_fm hi i) (hi d hm) fun H2 p2 => ?_
        · have := List.length_filterMap_le F (ds.take i)
          rw [List.length_take] at this
          omega
        · rw [filterMap_take hd]; exact p2
      · obtain ⟨p1, p2, acc, p3, p4⟩ := p
        rw [h2.length, List.take_length] at p4
        exact q l acc H' (s1.free hl) (s1.trans p2) p3 p4
theorem ed_lcL {g : TG} {vs : List Nat} (F : D → Option D) (hz : ds.length ≤ 40000) (h : Ed G tl σ H (.lst ds)) (hi : ∀ d ∈ ds, ∀ r, F d = some r → imm r = true)
    (ht : ∀ d ∈ ds, ∀ x H1, Same H H1 → DAt G H1 x d → CTurn G g tt te vs σ H1 x (F d)) : EdN G (tLc (iList G.K tl) g tt te vs) σ H (ds.filterMap F) := fun H0 s0 Q q =>
  h H0 s0 _ fun v H1 s1 dv => by
    cases dv with
    | @lst a xs _ h1 h2 =>
      refine ⟨a, rfl, ⟨xs, h1⟩, fun l hl => ?_⟩
      have base : Same H1 (upd H1 l (.lst [])) := .new hl
      refine lc_list (xs := xs) (fun i H' => CInv G H1 l ((ds.take i).filterMap F) H') ⟨hl, base, [], upd_same, by simp; exact .nil⟩ (fun i H' _ p => p.2.1.ls h1) (fun i x H' hx p => ?_) (fun H' p => ?_)
      · obtain ⟨d, hd, dx⟩ := h2.getV hx
        have hm := List.mem_of_getElem? hd
        refine ct_run ((ht d hm x H1 (s0.trans s1) dx)) p ?_ (immAll_fm hi i) (hi d hm) fun H2 p2 => ?_
        · have := List.length_filterMap_le F (ds.take i)
          rw [List.length_take] at this
          omega
        · rw [filterMap_take hd]; exact p2
      · obtain ⟨p1, p2, acc, p3, p4⟩ := p
        rw [h2.length, List.take_length] at p4
        exact q l acc H' (s1.free hl) (s1.trans p2) p3 p4
/-- over range(n): F by the number -/
theorem ed_lcR {g : TG} {ts : TA} {vs : List Nat} {n : Nat} (F : Nat → D) (hz : n ≤ 40000) (h : EdA G ts σ H [.int (n : Int)]) (hi : ∀ i < n, imm (F i) = true)
    (ht : ∀ i < n, ∀ H1, Same H H1 → CTurn G g tt te vs σ H1 (.int (i : Int)) (some (F i))) : EdN G (tLc (iRng1 ts) g tt te vs) σ H ((List.range n).map F) := fun H0 s0 Q q =>
  h H0 s0 _ fun vs' H1 s1 dv => by
    cases dv with
    | cons a b =>
      cases a; cases b
      refine ⟨(n : Int), rfl, by omega, by omega, fun l hl => ?_⟩
      have base : Same H1 (upd H1 l (.lst [])) := .new hl
      have e : ((n : Int)).toNat = n := Int.toNat_natCast n
      rw [e]
      refine lc_range (lo := 0) (n := n) (fun i H' => CInv G H1 l ((List.range i).map F) H') ⟨hl, base, [], upd_same, .nil⟩ (fun i H' hx p => ?_) (fun H' p => ?_)
      · have e0 : (0 : Int) + (i : Int) = (i : Int) := Int.zero_add _
        rw [e0]
        refine ct_run (ht i hx H1 (s0.trans s1)) p ?_ (immAll_iff.mpr fun r hr => ?_) (fun d e => by cases e; exact hi i hx) fun H2 p2 => ?_
        · rw [List.length_map, List.length_range]; omega
        · obtain ⟨j, hj, rfl⟩ := List.mem_map.mp hr
          exact hi j (Nat.lt_trans (List.mem_range.mp hj) hx)
        · rw [List.range_succ, List.map_append]; exact p2
      · obtain ⟨p1, p2, acc, p3, p4⟩ := p
        exact q l acc H' (s1.free hl) (s1.trans p2) p3 p4
end
end K3

set_option Elab.async false
set_option linter.all false
set_option maxRecDepth 100000
set_option maxHeartbeats 4000000
/-! Walks (printed by gen_walk.py). -/
namespace K3
open PySem PySem.Spec PyProof.Rows L2 He

abbrev N_is_integer : List Str := ["value", "low", "high"]
abbrev P_is_integer : List Str := ["value", "low", "high"]
theorem sc_is_integer : FnScope N_is_integer P_is_integer (defScope s_is_integer) := ⟨rfl, rfl, rfl, by decide +kernel, rfl, by decide +kernel, by decide +kernel⟩
def t_is_integer (X : Cx) (C CC aSCOPES aTICK : Addr) : TS := (tRet (tAndV (tCB (rIsiU (gs X C)) (tCons (tVar 0) (tCons (tC (.ty "int")) tNil))) (tAndV (tNotV (tCB (rIsiU (gs X C)) (tCons (tVar 0) (tCons (tC (.ty "bool")) tNil)))) (tChain (rI0 fun i j => .bl (decide (i ≤ j))) (rI0 fun i j => .bl (decide (i ≤ j))) (tVar 1) (tVar 0) (tVar 2)))))
theorem w_is_integer {P : Program} {w : World} {K : PySem.W.Frag} {mg : Str → Option Value} {base : Heap} {C CC aSCOPES aTICK f : Addr} {cdv : Value} {A : Around} {outer : List Env} {s : Shared} {H : Hp} {E : XK} (F : Ft P w K mg base C CC aSCOPES aTICK) (hr : Room 2 (XX P w K mg base d_is_integer N_is_integer f cdv A outer s H E).A) :
    PSs (XX P w K mg base d_is_integer N_is_integer f cdv A outer s H E) (defBody s_is_integer) (t_is_integer (XX P w K mg base d_is_integer N_is_integer f cdv A outer s H E) C CC aSCOPES aTICK ) :=
  (pss_one (ps_ret (pe_and (pe_callB (call_isiU F.insC) rfl F.isinstance boot_isinstance (pa_cons (pv 0) (pa_cons (pe_bltn rfl F.int boot_int rfl) pa_nil))) (pe_and (pe_not (pe_callB (call_isiU F.insC) rfl F.isinstance boot_isinstance (pa_cons (pv 0) (pa_cons (pe_bltn rfl F.bool boot_bool rfl) pa_nil)))) (pe_one (pe_chain op_le op_le (pv 1) (pv 0) (pv 2)))))))
def l_is_integer : Nat := 3
abbrev N_is_word : List Str := ["value", "words"]
abbrev P_is_word : List Str := ["value", "words"]
theorem sc_is_word : FnScope N_is_word P_is_word (defScope s_is_word) := ⟨rfl, rfl, rfl, by decide +kernel, rfl, by decide +kernel, by decide +kernel⟩
def t_is_word (X : Cx) (C CC aSCOPES aTICK : Addr) : TS := (tRet (tAndV (tCB (rIsiU (gs X C)) (tCons (tVar 0) (tCons (tC (.ty "str")) tNil))) (tOp (rInU (gs X C)) (tVar 0) (tVar 1))))
theorem w_is_word {P : Program} {w : World} {K : PySem.W.Frag} {mg : Str → Option Value} {base : Heap} {C CC aSCOPES aTICK f : Addr} {cdv : Value} {A : Around} {outer : List Env} {s : Shared} {H : Hp} {E : XK} (F : Ft P w K mg base C CC aSCOPES aTICK) (hr : Room 2 (XX P w K mg base d_is_word N_is_word f cdv A outer s H E).A) :
    PSs (XX P w K mg base d_is_word N_is_word f cdv A outer s H E) (defBody s_is_word) (t_is_word (XX P w K mg base d_is_word N_is_word f cdv A outer s H E) C CC aSCOPES aTICK ) :=
  (pss_one (ps_ret (pe_and (pe_callB (call_isiU F.insC) rfl F.isinstance boot_isinstance (pa_cons (pv 0) (pa_cons (pe_bltn rfl F.str boot_str rfl) pa_nil))) (pe_one (pe_cmpR (op_inU (Room_u65 hr)) (pv 0) (pv 1) rfl)))))
def l_is_word : Nat := 3
abbrev N_is_part : List Str := ["value"]
abbrev P_is_part : List Str := ["value"]
theorem sc_is_part : FnScope N_is_part P_is_part (defScope s_is_part) := ⟨rfl, rfl, rfl, by decide +kernel, rfl, by decide +kernel, by decide +kernel⟩
def t_is_part (X : Cx) (C CC aSCOPES aTICK : Addr) (sp_is_word sp_is_integer : Sp) : TS := (tSeq (tIfS (tOr (tNot (tB (tCB (rIsiU (gs X C)) (tCons (tVar 0) (tCons (tC (.ty "tuple")) tNil))))) (tTest (tOp (rNiU (gs X C)) (tCB (rLenU (gs X C)) (tCons (tVar 0) tNil)) (tTup (tCons (tC (.int 2)) (tCons (tC (.int 3)) tNil))))))
  (tRet (tC (.bl false)))
  tNext)
  (tSeq (tIfS (tTest (tOp (rEqU (gs X C)) (tCB (rLenU (gs X C)) (tCons (tVar 0) tNil)) (tC (.int 2))))
  (tRet (tAndV (tCall sp_is_word [] C8.E0 (tCons (tOp (rIxU (gs X C)) (tVar 0) (tC (.int 0))) (tCons (tTup (tCons (tC (.str "gap")) tNil)) tNil))) (tCall sp_is_integer [] C8.E0 (tCons (tOp (rIxU (gs X C)) (tVar 0) (tC (.int 1))) (tCons (tC (.int 1)) (tCons (tC (.int 6)) tNil))))))
  tNext)
  (tSeq (tIfS (tNot (tB (tCall sp_is_word [] C8.E0 (tCons (tOp (rIxU (gs X C)) (tVar 0) (tC (.int 0))) (tCons (tTup (tCons (tC (.str "bucket")) (tCons (tC (.str "window")) (tCons (tC (.str "slide")) tNil)))) tNil)))))
  (tRet (tC (.bl false)))
  tNext)
  (tRet (tAndV (tCall sp_is_integer [] C8.E0 (tCons (tOp (rIxU (gs X C)) (tVar 0) (tC (.int 1))) (tCons (tC (.int 1)) (tCons (tC (.int 4)) tNil)))) (tCall sp_is_integer [] C8.E0 (tCons (tOp (rIxU (gs X C)) (tVar 0) (tC (.int 2))) (tCons (tC (.int 1)) (tCons (tC (.int 6)) tNil)))))))))
theorem w_is_part {P : Program} {w : World} {K : PySem.W.Frag} {mg : Str → Option Value} {base : Heap} {C CC aSCOPES aTICK f : Addr} {cdv : Value} {A : Around} {outer : List Env} {s : Shared} {H : Hp} {E : XK} {sp_is_word sp_is_integer : Sp} (F : Ft P w K mg base C CC aSCOPES aTICK) (hr : Room 3 (XX P w K mg base d_is_part N_is_part f cdv A outer s H E).A) (c_is_word : C8.Cal P w K mg base 3 "is_word" sp_is_word []) (c_is_integer : C8.Cal P w K mg base 3 "is_integer" sp_is_integer []) :
    PSs (XX P w K mg base d_is_part N_is_part f cdv A outer s H E) (defBody s_is_part) (t_is_part (XX P w K mg base d_is_part N_is_part f cdv A outer s H E) C CC aSCOPES aTICK sp_is_word sp_is_integer) :=
  (pss_cons (ps_if (PW.pt (pw_or (pt_not (pt_val (pe_callB (call_isiU F.insC) rfl F.isinstance boot_isinstance (pa_cons (pv 0) (pa_cons (pe_bltn rfl F.tuple boot_tuple rfl) pa_nil))))) (pw_or1 (pt_cmpR (op_niU (Room_u65 hr)) (pe_callB call_lenU rfl F.len boot_len (pa_cons (pv 0) pa_nil)) (pe_tup (pa_cons pe_int (pa_cons pe_int pa_nil))) rfl))))
  (pss_one (ps_ret pe_bl))
  pss_nil)
  (pss_cons (ps_if (pt_cmpR (op_eqU hr.units) (pe_callB call_lenU rfl F.len boot_len (pa_cons (pv 0) pa_nil)) pe_int (nomark _))
  (pss_one (ps_ret (pe_and (C8.pe_c c_is_word hr (by decide) rfl (pa_cons (pe_ix (ix_U hr.units) (pv 0) pe_int (fun _ _ => rfl)) (pa_cons (pe_tup (pa_cons pe_str pa_nil)) pa_nil))) (pe_one (C8.pe_c c_is_integer hr (by decide) rfl (pa_cons (pe_ix (ix_U hr.units) (pv 0) pe_int (fun _ _ => rfl)) (pa_cons pe_int (pa_cons (C8.pe_gc rfl F.MAX_SPAN) pa_nil))))))))
  pss_nil)
  (pss_cons (ps_if (pt_not (pt_val (C8.pe_c c_is_word hr (by decide) rfl (pa_cons (pe_ix (ix_U hr.units) (pv 0) pe_int (fun _ _ => rfl)) (pa_cons (pe_tup (pa_cons pe_str (pa_cons pe_str (pa_cons pe_str pa_nil)))) pa_nil)))))
  (pss_one (ps_ret pe_bl))
  pss_nil)
  (pss_one (ps_ret (pe_and (C8.pe_c c_is_integer hr (by decide) rfl (pa_cons (pe_ix (ix_U hr.units) (pv 0) pe_int (fun _ _ => rfl)) (pa_cons pe_int (pa_cons (C8.pe_gc rfl F.MAX_LIMIT) pa_nil)))) (pe_one (C8.pe_c c_is_integer hr (by decide) rfl (pa_cons (pe_ix (ix_U hr.units) (pv 0) pe_int (fun _ _ => rfl)) (pa_cons pe_int (pa_cons (C8.pe_gc rfl F.MAX_SPAN) pa_nil)))))))))))
def l_is_part : Nat := 4
abbrev N_is_link : List Str := ["value"]
abbrev P_is_link : List Str := ["value"]
theorem sc_is_link : FnScope N_is_link P_is_link (defScope s_is_link) := ⟨rfl, rfl, rfl, by decide +kernel, rfl, by decide +kernel, by decide +kernel⟩
def t_is_link (X : Cx) (C CC aSCOPES aTICK : Addr) (sp_is_word sp_is_part : Sp) : TS := (tRet (tAndV (tCB (rIsiU (gs X C)) (tCons (tVar 0) (tCons (tC (.ty "tuple")) tNil))) (tAndV (tOp (rEqU (gs X C)) (tCB (rLenU (gs X C)) (tCons (tVar 0) tNil)) (tC (.int 2))) (tAndV (tCall sp_is_word [] C8.E0 (tCons (tOp (rIxU (gs X C)) (tVar 0) (tC (.int 0))) (tCons (tC (.ref aSCOPES)) tNil))) (tCall sp_is_part [] C8.E0 (tCons (tOp (rIxU (gs X C)) (tVar 0) (tC (.int 1))) tNil))))))
theorem w_is_link {P : Program} {w : World} {K : PySem.W.Frag} {mg : Str → Option Value} {base : Heap} {C CC aSCOPES aTICK f : Addr} {cdv : Value} {A : Around} {outer : List Env} {s : Shared} {H : Hp} {E : XK} {sp_is_word sp_is_part : Sp} (F : Ft P w K mg base C CC aSCOPES aTICK) (hr : Room 4 (XX P w K mg base d_is_link N_is_link f cdv A outer s H E).A) (c_is_word : C8.Cal P w K mg base 3 "is_word" sp_is_word []) (c_is_part : C8.Cal P w K mg base 4 "is_part" sp_is_part []) :
    PSs (XX P w K mg base d_is_link N_is_link f cdv A outer s H E) (defBody s_is_link) (t_is_link (XX P w K mg base d_is_link N_is_link f cdv A outer s H E) C CC aSCOPES aTICK sp_is_word sp_is_part) :=
  (pss_one (ps_ret (pe_and (pe_callB (call_isiU F.insC) rfl F.isinstance boot_isinstance (pa_cons (pv 0) (pa_cons (pe_bltn rfl F.tuple boot_tuple rfl) pa_nil))) (pe_and (pe_cmpR (op_eqU hr.units) (pe_callB call_lenU rfl F.len boot_len (pa_cons (pv 0) pa_nil)) pe_int (nomark _)) (pe_and (C8.pe_c c_is_word hr (by decide) rfl (pa_cons (pe_ix (ix_U hr.units) (pv 0) pe_int (fun _ _ => rfl)) (pa_cons (C8.pe_gc rfl F.SCOPES) pa_nil))) (pe_one (C8.pe_c c_is_part hr (by decide) rfl (pa_cons (pe_ix (ix_U hr.units) (pv 0) pe_int (fun _ _ => rfl)) pa_nil))))))))
def l_is_link : Nat := 5
abbrev N_check_chain : List Str := ["chain"]
abbrev P_check_chain : List Str := ["chain"]
theorem sc_check_chain : FnScope N_check_chain P_check_chain (defScope s_check_chain) := ⟨rfl, rfl, rfl, by decide +kernel, rfl, by decide +kernel, by decide +kernel⟩
def t_check_chain (X : Cx) (C CC aSCOPES aTICK : Addr) : TS := (tIfS (tNot (tB (tCB (rIsiU (gs X C)) (tCons (tVar 0) (tCons (tC (.ref C)) tNil)))))
  tNever
  tNext)
theorem w_check_chain {P : Program} {w : World} {K : PySem.W.Frag} {mg : Str → Option Value} {base : Heap} {C CC aSCOPES aTICK f : Addr} {cdv : Value} {A : Around} {outer : List Env} {s : Shared} {H : Hp} {E : XK} (F : Ft P w K mg base C CC aSCOPES aTICK) (hr : Room 2 (XX P w K mg base d_check_chain N_check_chain f cdv A outer s H E).A) :
    PSs (XX P w K mg base d_check_chain N_check_chain f cdv A outer s H E) (defBody s_check_chain) (t_check_chain (XX P w K mg base d_check_chain N_check_chain f cdv A outer s H E) C CC aSCOPES aTICK ) :=
  (pss_one (ps_if (pt_not (pt_val (pe_callB (call_isiU F.insC) rfl F.isinstance boot_isinstance (pa_cons (pv 0) (pa_cons (C8.pe_gc rfl F.Chain) pa_nil)))))
  (pss_one ps_never)
  pss_nil))
def l_check_chain : Nat := 3
abbrev N_events_of : List Str := ["chain", "caller"]
abbrev P_events_of : List Str := ["chain"]
theorem sc_events_of : FnScope N_events_of P_events_of (defScope s_events_of) := ⟨rfl, rfl, rfl, by decide +kernel, rfl, by decide +kernel, by decide +kernel⟩
def t_events_of (X : Cx) (C CC aSCOPES aTICK : Addr) : TS := (tRet (tLst (tCons (tC (.ref aTICK)) (StX.tStar X.K (tLc (iRng1 (tCons (tFld X.K (tVar 0) "folk") tNil)) (gName 1) tYes (tTup (tCons (tC (.str "ask")) (tCons (tVar 1) tNil))) [1]) tNil))))
theorem w_events_of {P : Program} {w : World} {K : PySem.W.Frag} {mg : Str → Option Value} {base : Heap} {C CC aSCOPES aTICK f : Addr} {cdv : Value} {A : Around} {outer : List Env} {s : Shared} {H : Hp} {E : XK} (F : Ft P w K mg base C CC aSCOPES aTICK) (hr : Room 2 (XX P w K mg base d_events_of N_events_of f cdv A outer s H E).A) :
    PSs (XX P w K mg base d_events_of N_events_of f cdv A outer s H E) (defBody s_events_of) (t_events_of (XX P w K mg base d_events_of N_events_of f cdv A outer s H E) C CC aSCOPES aTICK ) :=
  (pss_one (ps_ret (pe_lst (pa_cons (C8.pe_gc rfl F.TICK) (StX.pa_star (pe_lc (own := [("caller", 1)]) rfl sc_events_of.nd (pi_range1 rfl F.range (pa_cons (pe_fld (pv 0) rfl) pa_nil)) (blkOk_by (N := N_events_of) (sc := defScope s_events_of) (by decide +kernel)) (fun _ _ _ _ _ => (pg_name (i := 1) sc_events_of.nd rfl (by first | exact Or.inl rfl | exact Or.inr rfl))) (fun _ _ _ _ _ => pts_nil) (fun _ _ _ _ _ => (pe_tup (pa_cons pe_str (pa_cons (pv 1) pa_nil))))) pa_nil)))))
def l_events_of : Nat := 3
abbrev N_first_of : List Str := ["part"]
abbrev P_first_of : List Str := ["part"]
theorem sc_first_of : FnScope N_first_of P_first_of (defScope s_first_of) := ⟨rfl, rfl, rfl, by decide +kernel, rfl, by decide +kernel, by decide +kernel⟩
def t_first_of (X : Cx) (C CC aSCOPES aTICK : Addr) : TS := (tSeq (tM (tOp (rIxU (gs X C)) (tVar 0) (tC (.int 0))) (tCase "bucket" (tRet (tTup (tCons (tOp (rIxU (gs X C)) (tVar 0) (tC (.int 1))) (tCons (tC (.int 0)) tNil))))
  (tCase "window" (tRet (tTup (tCons (tC (.int 0)) (tCons (tC (.int 0)) tNil))))
  (tCase "slide" (tRet (tTup tNil))
  (fun _ => tNext)))))
  (tRet (tC (.int 0))))
theorem w_first_of {P : Program} {w : World} {K : PySem.W.Frag} {mg : Str → Option Value} {base : Heap} {C CC aSCOPES aTICK f : Addr} {cdv : Value} {A : Around} {outer : List Env} {s : Shared} {H : Hp} {E : XK} (F : Ft P w K mg base C CC aSCOPES aTICK) (hr : Room 2 (XX P w K mg base d_first_of N_first_of f cdv A outer s H E).A) :
    PSs (XX P w K mg base d_first_of N_first_of f cdv A outer s H E) (defBody s_first_of) (t_first_of (XX P w K mg base d_first_of N_first_of f cdv A outer s H E) C CC aSCOPES aTICK ) :=
  (pss_cons (ps_match (pe_ix (ix_U hr.units) (pv 0) pe_int (fun _ _ => rfl)) (pm_str (pss_one (ps_ret (pe_tup (pa_cons (pe_ix (ix_U hr.units) (pv 0) pe_int (fun _ _ => rfl)) (pa_cons pe_int pa_nil)))))
  (pm_str (pss_one (ps_ret (pe_tup (pa_cons pe_int (pa_cons pe_int pa_nil)))))
  (pm_str (pss_one (ps_ret (pe_tup pa_nil)))
  pm_nil))))
  (pss_one (ps_ret pe_int)))
def l_first_of : Nat := 3
abbrev N_ticked : List Str := ["part", "value", "tokens", "since", "count", "age"]
abbrev P_ticked : List Str := ["part", "value"]
theorem sc_ticked : FnScope N_ticked P_ticked (defScope s_ticked) := ⟨rfl, rfl, rfl, by decide +kernel, rfl, by decide +kernel, by decide +kernel⟩
def t_ticked (X : Cx) (C CC aSCOPES aTICK : Addr) : TS := (tSeq (tM (tOp (rIxU (gs X C)) (tVar 0) (tC (.int 0))) (tCase "bucket" (tSeq (tAsg (tVar 1) (gTup X.K 2 (gCons (gName 2) (gCons (gName 3) gNil))))
  (tRet (tIf (tTest (tOp (rEqU (gs X C)) (tOp (rAddU (gs X C)) (tVar 3) (tC (.int 1))) (tOp (rIxU (gs X C)) (tVar 0) (tC (.int 2))))) (tTup (tCons (tCB rMinU (tCons (tOp (rIxU (gs X C)) (tVar 0) (tC (.int 1))) (tCons (tOp (rAddU (gs X C)) (tVar 2) (tC (.int 1))) tNil))) (tCons (tC (.int 0)) tNil))) (tTup (tCons (tVar 2) (tCons (tOp (rAddU (gs X C)) (tVar 3) (tC (.int 1))) tNil))))))
  (tCase "window" (tSeq (tAsg (tVar 1) (gTup X.K 2 (gCons (gName 4) (gCons (gName 3) gNil))))
  (tRet (tIf (tTest (tOp (rEqU (gs X C)) (tOp (rAddU (gs X C)) (tVar 3) (tC (.int 1))) (tOp (rIxU (gs X C)) (tVar 0) (tC (.int 2))))) (tTup (tCons (tC (.int 0)) (tCons (tC (.int 0)) tNil))) (tTup (tCons (tVar 4) (tCons (tOp (rAddU (gs X C)) (tVar 3) (tC (.int 1))) tNil))))))
  (tCase "slide" (tRet (tCB (rTupU (gs X C)) (tCons (tLc (iTup X.K (tVar 1)) (gName 5) (tTest (tOp (rI0 fun i j => .bl (decide (i < j))) (tOp (rAddU (gs X C)) (tVar 5) (tC (.int 1))) (tOp (rIxU (gs X C)) (tVar 0) (tC (.int 2))))) (tOp (rAddU (gs X C)) (tVar 5) (tC (.int 1))) [5]) tNil)))
  (fun _ => tNext)))))
  (tRet (tCB rMaxU (tCons (tC (.int 0)) (tCons (tOp (rI0 fun i j => .int (i - j)) (tVar 1) (tC (.int 1))) tNil)))))
theorem w_ticked {P : Program} {w : World} {K : PySem.W.Frag} {mg : Str → Option Value} {base : Heap} {C CC aSCOPES aTICK f : Addr} {cdv : Value} {A : Around} {outer : List Env} {s : Shared} {H : Hp} {E : XK} (F : Ft P w K mg base C CC aSCOPES aTICK) (hr : Room 2 (XX P w K mg base d_ticked N_ticked f cdv A outer s H E).A) :
    PSs (XX P w K mg base d_ticked N_ticked f cdv A outer s H E) (defBody s_ticked) (t_ticked (XX P w K mg base d_ticked N_ticked f cdv A outer s H E) C CC aSCOPES aTICK ) :=
  (pss_cons (ps_match (pe_ix (ix_U hr.units) (pv 0) pe_int (fun _ _ => rfl)) (pm_str (pss_cons (ps_asg (pv 1) (pg_tup rfl (pgs_cons (pg_name (i := 2) sc_ticked.nd rfl (by first | exact Or.inl rfl | exact Or.inr rfl)) (pgs_cons (pg_name (i := 3) sc_ticked.nd rfl (by first | exact Or.inl rfl | exact Or.inr rfl)) pgs_nil))))
  (pss_one (ps_ret (pe_ifExp (pt_cmpR (op_eqU hr.units) (pe_op op_addU (pv 3) pe_int) (pe_ix (ix_U hr.units) (pv 0) pe_int (fun _ _ => rfl)) (nomark _)) (pe_tup (pa_cons (pe_callB (call_min2 rfl) rfl F.min boot_min (pa_cons (pe_ix (ix_U hr.units) (pv 0) pe_int (fun _ _ => rfl)) (pa_cons (pe_op op_addU (pv 2) pe_int) pa_nil))) (pa_cons pe_int pa_nil))) (pe_tup (pa_cons (pv 2) (pa_cons (pe_op op_addU (pv 3) pe_int) pa_nil)))))))
  (pm_str (pss_cons (ps_asg (pv 1) (pg_tup rfl (pgs_cons (pg_name (i := 4) sc_ticked.nd rfl (by first | exact Or.inl rfl | exact Or.inr rfl)) (pgs_cons (pg_name (i := 3) sc_ticked.nd rfl (by first | exact Or.inl rfl | exact Or.inr rfl)) pgs_nil))))
  (pss_one (ps_ret (pe_ifExp (pt_cmpR (op_eqU hr.units) (pe_op op_addU (pv 3) pe_int) (pe_ix (ix_U hr.units) (pv 0) pe_int (fun _ _ => rfl)) (nomark _)) (pe_tup (pa_cons pe_int (pa_cons pe_int pa_nil))) (pe_tup (pa_cons (pv 4) (pa_cons (pe_op op_addU (pv 3) pe_int) pa_nil)))))))
  (pm_str (pss_one (ps_ret (pe_callTy call_tupU rfl F.tuple boot_tuple (pa_cons (pe_lc (own := [("age", 5)]) rfl sc_ticked.nd (pi_tup (pv 1)) (blkOk_by (N := N_ticked) (sc := defScope s_ticked) (by decide +kernel)) (fun _ _ _ _ _ => (pg_name (i := 5) sc_ticked.nd rfl (by first | exact Or.inl rfl | exact Or.inr rfl))) (fun _ _ _ _ _ => (pts_one (pt_cmpR op_lt (pe_op op_addU (pv 5) pe_int) (pe_ix (ix_U hr.units) (pv 0) pe_int (fun _ _ => rfl)) (nomark _)))) (fun _ _ _ _ _ => (pe_op op_addU (pv 5) pe_int))) pa_nil))))
  pm_nil))))
  (pss_one (ps_ret (pe_callB (call_max2 rfl) rfl F.max boot_max (pa_cons pe_int (pa_cons (pe_op op_sub (pv 1) pe_int) pa_nil))))))
def l_ticked : Nat := 3
abbrev N_does_let : List Str := ["part", "value"]
abbrev P_does_let : List Str := ["part", "value"]
theorem sc_does_let : FnScope N_does_let P_does_let (defScope s_does_let) := ⟨rfl, rfl, rfl, by decide +kernel, rfl, by decide +kernel, by decide +kernel⟩
def t_does_let (X : Cx) (C CC aSCOPES aTICK : Addr) : TS := (tSeq (tM (tOp (rIxU (gs X C)) (tVar 0) (tC (.int 0))) (tCase "bucket" (tRet (tOp (rI0 fun i j => .bl (decide (j < i))) (tOp (rIxU (gs X C)) (tVar 1) (tC (.int 0))) (tC (.int 0))))
  (tCase "window" (tRet (tOp (rI0 fun i j => .bl (decide (i < j))) (tOp (rIxU (gs X C)) (tVar 1) (tC (.int 0))) (tOp (rIxU (gs X C)) (tVar 0) (tC (.int 1)))))
  (tCase "slide" (tRet (tOp (rI0 fun i j => .bl (decide (i < j))) (tCB (rLenU (gs X C)) (tCons (tVar 1) tNil)) (tOp (rIxU (gs X C)) (tVar 0) (tC (.int 1)))))
  (fun _ => tNext)))))
  (tRet (tOp (rEqU (gs X C)) (tVar 1) (tC (.int 0)))))
theorem w_does_let {P : Program} {w : World} {K : PySem.W.Frag} {mg : Str → Option Value} {base : Heap} {C CC aSCOPES aTICK f : Addr} {cdv : Value} {A : Around} {outer : List Env} {s : Shared} {H : Hp} {E : XK} (F : Ft P w K mg base C CC aSCOPES aTICK) (hr : Room 2 (XX P w K mg base d_does_let N_does_let f cdv A outer s H E).A) :
    PSs (XX P w K mg base d_does_let N_does_let f cdv A outer s H E) (defBody s_does_let) (t_does_let (XX P w K mg base d_does_let N_does_let f cdv A outer s H E) C CC aSCOPES aTICK ) :=
  (pss_cons (ps_match (pe_ix (ix_U hr.units) (pv 0) pe_int (fun _ _ => rfl)) (pm_str (pss_one (ps_ret (pe_cmpR op_gt (pe_ix (ix_U hr.units) (pv 1) pe_int (fun _ _ => rfl)) pe_int (nomark _))))
  (pm_str (pss_one (ps_ret (pe_cmpR op_lt (pe_ix (ix_U hr.units) (pv 1) pe_int (fun _ _ => rfl)) (pe_ix (ix_U hr.units) (pv 0) pe_int (fun _ _ => rfl)) (nomark _))))
  (pm_str (pss_one (ps_ret (pe_cmpR op_lt (pe_callB call_lenU rfl F.len boot_len (pa_cons (pv 1) pa_nil)) (pe_ix (ix_U hr.units) (pv 0) pe_int (fun _ _ => rfl)) (nomark _))))
  pm_nil))))
  (pss_one (ps_ret (pe_cmpR (op_eqU hr.units) (pv 1) pe_int (nomark _)))))
def l_does_let : Nat := 3
abbrev N_counted : List Str := ["part", "value"]
abbrev P_counted : List Str := ["part", "value"]
theorem sc_counted : FnScope N_counted P_counted (defScope s_counted) := ⟨rfl, rfl, rfl, by decide +kernel, rfl, by decide +kernel, by decide +kernel⟩
def t_counted (X : Cx) (C CC aSCOPES aTICK : Addr) : TS := (tSeq (tM (tOp (rIxU (gs X C)) (tVar 0) (tC (.int 0))) (tCase "bucket" (tRet (tTup (tCons (tOp (rI0 fun i j => .int (i - j)) (tOp (rIxU (gs X C)) (tVar 1) (tC (.int 0))) (tC (.int 1))) (tCons (tOp (rIxU (gs X C)) (tVar 1) (tC (.int 1))) tNil))))
  (tCase "window" (tRet (tTup (tCons (tOp (rAddU (gs X C)) (tOp (rIxU (gs X C)) (tVar 1) (tC (.int 0))) (tC (.int 1))) (tCons (tOp (rIxU (gs X C)) (tVar 1) (tC (.int 1))) tNil))))
  (tCase "slide" (tRet (tTup (StX.tStar X.K (tVar 1) (tCons (tC (.int 0)) tNil))))
  (fun _ => tNext)))))
  (tRet (tOp (rIxU (gs X C)) (tVar 0) (tC (.int 1)))))
theorem w_counted {P : Program} {w : World} {K : PySem.W.Frag} {mg : Str → Option Value} {base : Heap} {C CC aSCOPES aTICK f : Addr} {cdv : Value} {A : Around} {outer : List Env} {s : Shared} {H : Hp} {E : XK} (F : Ft P w K mg base C CC aSCOPES aTICK) (hr : Room 2 (XX P w K mg base d_counted N_counted f cdv A outer s H E).A) :
    PSs (XX P w K mg base d_counted N_counted f cdv A outer s H E) (defBody s_counted) (t_counted (XX P w K mg base d_counted N_counted f cdv A outer s H E) C CC aSCOPES aTICK ) :=
  (pss_cons (ps_match (pe_ix (ix_U hr.units) (pv 0) pe_int (fun _ _ => rfl)) (pm_str (pss_one (ps_ret (pe_tup (pa_cons (pe_op op_sub (pe_ix (ix_U hr.units) (pv 1) pe_int (fun _ _ => rfl)) pe_int) (pa_cons (pe_ix (ix_U hr.units) (pv 1) pe_int (fun _ _ => rfl)) pa_nil)))))
  (pm_str (pss_one (ps_ret (pe_tup (pa_cons (pe_op op_addU (pe_ix (ix_U hr.units) (pv 1) pe_int (fun _ _ => rfl)) pe_int) (pa_cons (pe_ix (ix_U hr.units) (pv 1) pe_int (fun _ _ => rfl)) pa_nil)))))
  (pm_str (pss_one (ps_ret (pe_tup (StX.pa_star (pv 1) (pa_cons pe_int pa_nil)))))
  pm_nil))))
  (pss_one (ps_ret (pe_ix (ix_U hr.units) (pv 0) pe_int (fun _ _ => rfl)))))
def l_counted : Nat := 3
abbrev N_first_state : List Str := ["chain", "found", "scope", "part"]
abbrev P_first_state : List Str := ["chain"]
theorem sc_first_state : FnScope N_first_state P_first_state (defScope s_first_state) := ⟨rfl, rfl, rfl, by decide +kernel, rfl, by decide +kernel, by decide +kernel⟩
def t_first_state (X : Cx) (C CC aSCOPES aTICK : Addr) (sp_first_of : Sp) : TS := (tSeq (tAsg (tLst tNil) (gName 1))
  (tSeq (tFor (iTup X.K (tFld X.K (tVar 0) "rows")) (gTup X.K 2 (gCons (gName 2) (gCons (gName 3) gNil)))
  (tDrop (tBM X.K "list" rAppend (tVar 1) (tCons (tIf (tTest (tOp (rEqU (gs X C)) (tVar 2) (tC (.str "all")))) (tCall sp_first_of [] C8.E0 (tCons (tVar 3) tNil)) (tOp (rMulU (gs X C)) (tTup (tCons (tCall sp_first_of [] C8.E0 (tCons (tVar 3) tNil)) tNil)) (tFld X.K (tVar 0) "folk"))) tNil))))
  (tRet (tCB (rTupU (gs X C)) (tCons (tVar 1) tNil)))))
theorem w_first_state {P : Program} {w : World} {K : PySem.W.Frag} {mg : Str → Option Value} {base : Heap} {C CC aSCOPES aTICK f : Addr} {cdv : Value} {A : Around} {outer : List Env} {s : Shared} {H : Hp} {E : XK} {sp_first_of : Sp} (F : Ft P w K mg base C CC aSCOPES aTICK) (hr : Room 3 (XX P w K mg base d_first_state N_first_state f cdv A outer s H E).A) (c_first_of : C8.Cal P w K mg base 3 "first_of" sp_first_of []) :
    PSs (XX P w K mg base d_first_state N_first_state f cdv A outer s H E) (defBody s_first_state) (t_first_state (XX P w K mg base d_first_state N_first_state f cdv A outer s H E) C CC aSCOPES aTICK sp_first_of) :=
  (pss_cons (ps_set (i := 1) sc_first_state.nd rfl (by first | exact Or.inl rfl | exact Or.inr rfl) (pe_lst pa_nil))
  (pss_cons (ps_for PassesOwn.never rfl (pi_tup (pe_fld (pv 0) rfl)) (pg_tup rfl (pgs_cons (pg_name (i := 2) sc_first_state.nd rfl (by first | exact Or.inl rfl | exact Or.inr rfl)) (pgs_cons (pg_name (i := 3) sc_first_state.nd rfl (by first | exact Or.inl rfl | exact Or.inr rfl)) pgs_nil)))
  (pss_one (ps_expr (pe_bm PySem.F.plainAttrs_list PySem.F.slot_list_append PySem.F.type_list_append mt_append (pv 1) (pa_cons (pe_ifExp (pt_cmpR (op_eqU hr.units) (pv 2) pe_str (nomark _)) (C8.pe_c c_first_of hr (by decide) rfl (pa_cons (pv 3) pa_nil)) (pe_op op_mulU (pe_tup (pa_cons (C8.pe_c c_first_of hr (by decide) rfl (pa_cons (pv 3) pa_nil)) pa_nil)) (pe_fld (pv 0) rfl))) pa_nil)))))
  (pss_one (ps_ret (pe_callTy call_tupU rfl F.tuple boot_tuple (pa_cons (pv 1) pa_nil))))))
def l_first_state : Nat := 4
abbrev N_after_tick : List Str := ["chain", "value", "found", "one", "scope", "part", "alone"]
abbrev P_after_tick : List Str := ["chain", "value"]
theorem sc_after_tick : FnScope N_after_tick P_after_tick (defScope s_after_tick) := ⟨rfl, rfl, rfl, by decide +kernel, rfl, by decide +kernel, by decide +kernel⟩
def t_after_tick (X : Cx) (C CC aSCOPES aTICK : Addr) (sp_ticked : Sp) : TS := (tSeq (tAsg (tLst tNil) (gName 2))
  (tSeq (tFor (RZ.iZipA X.K (tCons (tFld X.K (tVar 0) "rows") (tCons (tVar 1) tNil))) (gTup X.K 2 (gCons (gTup X.K 2 (gCons (gName 4) (gCons (gName 5) gNil))) (gCons (gName 3) gNil)))
  (tDrop (tBM X.K "list" rAppend (tVar 2) (tCons (tIf (tTest (tOp (rEqU (gs X C)) (tVar 4) (tC (.str "all")))) (tCall sp_ticked [] C8.E0 (tCons (tVar 5) (tCons (tVar 3) tNil))) (tCB (rTupU (gs X C)) (tCons (tLc (iTup X.K (tVar 3)) (gName 6) tYes (tCall sp_ticked [] C8.E0 (tCons (tVar 5) (tCons (tVar 6) tNil))) [6]) tNil))) tNil))))
  (tRet (tCB (rTupU (gs X C)) (tCons (tVar 2) tNil)))))
theorem w_after_tick {P : Program} {w : World} {K : PySem.W.Frag} {mg : Str → Option Value} {base : Heap} {C CC aSCOPES aTICK f : Addr} {cdv : Value} {A : Around} {outer : List Env} {s : Shared} {H : Hp} {E : XK} {sp_ticked : Sp} (F : Ft P w K mg base C CC aSCOPES aTICK) (hr : Room 3 (XX P w K mg base d_after_tick N_after_tick f cdv A outer s H E).A) (c_ticked : C8.Cal P w K mg base 3 "ticked" sp_ticked []) :
    PSs (XX P w K mg base d_after_tick N_after_tick f cdv A outer s H E) (defBody s_after_tick) (t_after_tick (XX P w K mg base d_after_tick N_after_tick f cdv A outer s H E) C CC aSCOPES aTICK sp_ticked) :=
  (pss_cons (ps_set (i := 2) sc_after_tick.nd rfl (by first | exact Or.inl rfl | exact Or.inr rfl) (pe_lst pa_nil))
  (pss_cons (ps_for PassesOwn.never rfl (RZ.pi_zipA rfl F.zip (pa_cons (pe_fld (pv 0) rfl) (pa_cons (pv 1) pa_nil))) (pg_tup rfl (pgs_cons (pg_tup rfl (pgs_cons (pg_name (i := 4) sc_after_tick.nd rfl (by first | exact Or.inl rfl | exact Or.inr rfl)) (pgs_cons (pg_name (i := 5) sc_after_tick.nd rfl (by first | exact Or.inl rfl | exact Or.inr rfl)) pgs_nil))) (pgs_cons (pg_name (i := 3) sc_after_tick.nd rfl (by first | exact Or.inl rfl | exact Or.inr rfl)) pgs_nil)))
  (pss_one (ps_expr (pe_bm PySem.F.plainAttrs_list PySem.F.slot_list_append PySem.F.type_list_append mt_append (pv 2) (pa_cons (pe_ifExp (pt_cmpR (op_eqU hr.units) (pv 4) pe_str (nomark _)) (C8.pe_c c_ticked hr (by decide) rfl (pa_cons (pv 5) (pa_cons (pv 3) pa_nil))) (pe_callTy call_tupU rfl F.tuple boot_tuple (pa_cons (pe_lc (own := [("alone", 6)]) rfl sc_after_tick.nd (pi_tup (pv 3)) (blkOk_by (N := N_after_tick) (sc := defScope s_after_tick) (by decide +kernel)) (fun _ _ _ _ _ => (pg_name (i := 6) sc_after_tick.nd rfl (by first | exact Or.inl rfl | exact Or.inr rfl))) (fun _ _ _ _ _ => pts_nil) (fun _ _ _ _ _ => (C8.pe_c c_ticked hr (by decide) rfl (pa_cons (pv 5) (pa_cons (pv 6) pa_nil))))) pa_nil))) pa_nil)))))
  (pss_one (ps_ret (pe_callTy call_tupU rfl F.tuple boot_tuple (pa_cons (pv 2) pa_nil))))))
def l_after_tick : Nat := 4
abbrev N_lets_at : List Str := ["chain", "value", "index", "caller", "scope", "part"]
abbrev P_lets_at : List Str := ["chain", "value", "index", "caller"]
theorem sc_lets_at : FnScope N_lets_at P_lets_at (defScope s_lets_at) := ⟨rfl, rfl, rfl, by decide +kernel, rfl, by decide +kernel, by decide +kernel⟩
def t_lets_at (X : Cx) (C CC aSCOPES aTICK : Addr) (sp_does_let : Sp) : TS := (tSeq (tAsg (tOp (rIxU (gs X C)) (tFld X.K (tVar 0) "rows") (tVar 2)) (gTup X.K 2 (gCons (gName 4) (gCons (gName 5) gNil))))
  (tRet (tCall sp_does_let [] C8.E0 (tCons (tVar 5) (tCons (tIf (tTest (tOp (rEqU (gs X C)) (tVar 4) (tC (.str "all")))) (tOp (rIxU (gs X C)) (tVar 1) (tVar 2)) (tOp (rIxU (gs X C)) (tOp (rIxU (gs X C)) (tVar 1) (tVar 2)) (tVar 3))) tNil)))))
theorem w_lets_at {P : Program} {w : World} {K : PySem.W.Frag} {mg : Str → Option Value} {base : Heap} {C CC aSCOPES aTICK f : Addr} {cdv : Value} {A : Around} {outer : List Env} {s : Shared} {H : Hp} {E : XK} {sp_does_let : Sp} (F : Ft P w K mg base C CC aSCOPES aTICK) (hr : Room 3 (XX P w K mg base d_lets_at N_lets_at f cdv A outer s H E).A) (c_does_let : C8.Cal P w K mg base 3 "does_let" sp_does_let []) :
    PSs (XX P w K mg base d_lets_at N_lets_at f cdv A outer s H E) (defBody s_lets_at) (t_lets_at (XX P w K mg base d_lets_at N_lets_at f cdv A outer s H E) C CC aSCOPES aTICK sp_does_let) :=
  (pss_cons (ps_asg (pe_ix (ix_U hr.units) (pe_fld (pv 0) rfl) (pv 2) (fun _ _ => rfl)) (pg_tup rfl (pgs_cons (pg_name (i := 4) sc_lets_at.nd rfl (by first | exact Or.inl rfl | exact Or.inr rfl)) (pgs_cons (pg_name (i := 5) sc_lets_at.nd rfl (by first | exact Or.inl rfl | exact Or.inr rfl)) pgs_nil))))
  (pss_one (ps_ret (C8.pe_c c_does_let hr (by decide) rfl (pa_cons (pv 5) (pa_cons (pe_ifExp (pt_cmpR (op_eqU hr.units) (pv 4) pe_str (nomark _)) (pe_ix (ix_U hr.units) (pv 1) (pv 2) (fun _ _ => rfl)) (pe_ix (ix_U hr.units) (pe_ix (ix_U hr.units) (pv 1) (pv 2) (fun _ _ => rfl)) (pv 3) (fun _ _ => rfl))) pa_nil))))))
def l_lets_at : Nat := 4
abbrev N_counted_at : List Str := ["chain", "value", "index", "caller", "one", "scope", "part", "later"]
abbrev P_counted_at : List Str := ["chain", "value", "index", "caller"]
theorem sc_counted_at : FnScope N_counted_at P_counted_at (defScope s_counted_at) := ⟨rfl, rfl, rfl, by decide +kernel, rfl, by decide +kernel, by decide +kernel⟩
def t_counted_at (X : Cx) (C CC aSCOPES aTICK : Addr) (sp_counted : Sp) : TS := (tSeq (tAsg (tOp (rIxU (gs X C)) (tFld X.K (tVar 0) "rows") (tVar 2)) (gTup X.K 2 (gCons (gName 5) (gCons (gName 6) gNil))))
  (tSeq (tAsg (tOp (rIxU (gs X C)) (tVar 1) (tVar 2)) (gName 4))
  (tSeq (tIfS (tTest (tOp (rEqU (gs X C)) (tVar 5) (tC (.str "all"))))
  (tAsg (tCall sp_counted [] C8.E0 (tCons (tVar 6) (tCons (tVar 4) tNil))) (gName 7))
  (tAsg (tTup (StX.tStar X.K (tSl (rSlU (gs X C)) (tVar 4) tNoPart (tPart (tVar 3))) (tCons (tCall sp_counted [] C8.E0 (tCons (tVar 6) (tCons (tOp (rIxU (gs X C)) (tVar 4) (tVar 3)) tNil))) (StX.tStar X.K (tSl (rSlU (gs X C)) (tVar 4) (tPart (tOp (rAddU (gs X C)) (tVar 3) (tC (.int 1)))) tNoPart) tNil)))) (gName 7)))
  (tRet (tTup (StX.tStar X.K (tSl (rSlU (gs X C)) (tVar 1) tNoPart (tPart (tVar 2))) (tCons (tVar 7) (StX.tStar X.K (tSl (rSlU (gs X C)) (tVar 1) (tPart (tOp (rAddU (gs X C)) (tVar 2) (tC (.int 1)))) tNoPart) tNil))))))))
theorem w_counted_at {P : Program} {w : World} {K : PySem.W.Frag} {mg : Str → Option Value} {base : Heap} {C CC aSCOPES aTICK f : Addr} {cdv : Value} {A : Around} {outer : List Env} {s : Shared} {H : Hp} {E : XK} {sp_counted : Sp} (F : Ft P w K mg base C CC aSCOPES aTICK) (hr : Room 3 (XX P w K mg base d_counted_at N_counted_at f cdv A outer s H E).A) (c_counted : C8.Cal P w K mg base 3 "counted" sp_counted []) :
    PSs (XX P w K mg base d_counted_at N_counted_at f cdv A outer s H E) (defBody s_counted_at) (t_counted_at (XX P w K mg base d_counted_at N_counted_at f cdv A outer s H E) C CC aSCOPES aTICK sp_counted) :=
  (pss_cons (ps_asg (pe_ix (ix_U hr.units) (pe_fld (pv 0) rfl) (pv 2) (fun _ _ => rfl)) (pg_tup rfl (pgs_cons (pg_name (i := 5) sc_counted_at.nd rfl (by first | exact Or.inl rfl | exact Or.inr rfl)) (pgs_cons (pg_name (i := 6) sc_counted_at.nd rfl (by first | exact Or.inl rfl | exact Or.inr rfl)) pgs_nil))))
  (pss_cons (ps_set (i := 4) sc_counted_at.nd rfl (by first | exact Or.inl rfl | exact Or.inr rfl) (pe_ix (ix_U hr.units) (pv 1) (pv 2) (fun _ _ => rfl)))
  (pss_cons (ps_if (pt_cmpR (op_eqU hr.units) (pv 5) pe_str (nomark _))
  (pss_one (ps_set (i := 7) sc_counted_at.nd rfl (by first | exact Or.inl rfl | exact Or.inr rfl) (C8.pe_c c_counted hr (by decide) rfl (pa_cons (pv 6) (pa_cons (pv 4) pa_nil)))))
  (pss_one (ps_set (i := 7) sc_counted_at.nd rfl (by first | exact Or.inl rfl | exact Or.inr rfl) (pe_tup (StX.pa_star (pe_slice sl_U (pv 4) po_none (po_some (pv 3))) (pa_cons (C8.pe_c c_counted hr (by decide) rfl (pa_cons (pv 6) (pa_cons (pe_ix (ix_U hr.units) (pv 4) (pv 3) (fun _ _ => rfl)) pa_nil))) (StX.pa_star (pe_slice sl_U (pv 4) (po_some (pe_op op_addU (pv 3) pe_int)) po_none) pa_nil)))))))
  (pss_one (ps_ret (pe_tup (StX.pa_star (pe_slice sl_U (pv 1) po_none (po_some (pv 2))) (pa_cons (pv 7) (StX.pa_star (pe_slice sl_U (pv 1) (po_some (pe_op op_addU (pv 2) pe_int)) po_none) pa_nil)))))))))
def l_counted_at : Nat := 4
end K3

set_option Elab.async false
set_option linter.all false
set_option maxRecDepth 100000
set_option maxHeartbeats 4000000
/-! Walks (printed by gen_walk.py). -/
namespace K3
open PySem PySem.Spec PyProof.Rows L2 He

abbrev N_answer_at : List Str := ["chain", "value", "caller", "index"]
abbrev P_answer_at : List Str := ["chain", "value", "caller"]
theorem sc_answer_at : FnScope N_answer_at P_answer_at (defScope s_answer_at) := ⟨rfl, rfl, rfl, by decide +kernel, rfl, by decide +kernel, by decide +kernel⟩
def t_answer_at (X : Cx) (C CC aSCOPES aTICK : Addr) (sp_lets_at : Sp) : TS := (tRet (tCB (rAll X.K) (tCons (tLc (iRng1 (tCons (tCB (rLenU (gs X C)) (tCons (tFld X.K (tVar 0) "rows") tNil)) tNil)) (gName 3) tYes (tCall sp_lets_at [] C8.E0 (tCons (tVar 0) (tCons (tVar 1) (tCons (tVar 3) (tCons (tVar 2) tNil))))) [3]) tNil)))
theorem w_answer_at {P : Program} {w : World} {K : PySem.W.Frag} {mg : Str → Option Value} {base : Heap} {C CC aSCOPES aTICK f : Addr} {cdv : Value} {A : Around} {outer : List Env} {s : Shared} {H : Hp} {E : XK} {sp_lets_at : Sp} (F : Ft P w K mg base C CC aSCOPES aTICK) (hr : Room 4 (XX P w K mg base d_answer_at N_answer_at f cdv A outer s H E).A) (c_lets_at : C8.Cal P w K mg base 4 "lets_at" sp_lets_at []) :
    PSs (XX P w K mg base d_answer_at N_answer_at f cdv A outer s H E) (defBody s_answer_at) (t_answer_at (XX P w K mg base d_answer_at N_answer_at f cdv A outer s H E) C CC aSCOPES aTICK sp_lets_at) :=
  (pss_one (ps_ret (pe_callB (cr_all rfl) rfl F.all boot_all (pa_cons (pe_lc (own := [("index", 3)]) rfl sc_answer_at.nd (pi_range1 rfl F.range (pa_cons (pe_callB call_lenU rfl F.len boot_len (pa_cons (pe_fld (pv 0) rfl) pa_nil)) pa_nil)) (blkOk_by (N := N_answer_at) (sc := defScope s_answer_at) (by decide +kernel)) (fun _ _ _ _ _ => (pg_name (i := 3) sc_answer_at.nd rfl (by first | exact Or.inl rfl | exact Or.inr rfl))) (fun _ _ _ _ _ => pts_nil) (fun _ _ _ _ _ => (C8.pe_c c_lets_at hr (by decide) rfl (pa_cons (pv 0) (pa_cons (pv 1) (pa_cons (pv 3) (pa_cons (pv 2) pa_nil))))))) pa_nil))))
def l_answer_at : Nat := 5
abbrev N_after_ask : List Str := ["chain", "value", "caller", "is_let", "index"]
abbrev P_after_ask : List Str := ["chain", "value", "caller"]
theorem sc_after_ask : FnScope N_after_ask P_after_ask (defScope s_after_ask) := ⟨rfl, rfl, rfl, by decide +kernel, rfl, by decide +kernel, by decide +kernel⟩
def t_after_ask (X : Cx) (C CC aSCOPES aTICK : Addr) (sp_answer_at sp_lets_at sp_counted_at : Sp) : TS := (tSeq (tAsg (tCall sp_answer_at [] C8.E0 (tCons (tVar 0) (tCons (tVar 1) (tCons (tVar 2) tNil)))) (gName 3))
  (tSeq (tIfS (tAnd (tNot (tB (tVar 3))) (tNot (tB (tFld X.K (tVar 0) "costly"))))
  (tRet (tTup (tCons (tC (.bl false)) (tCons (tVar 1) tNil))))
  tNext)
  (tSeq (tFor (iRng1 (tCons (tCB (rLenU (gs X C)) (tCons (tFld X.K (tVar 0) "rows") tNil)) tNil)) (gName 4)
  (tSeq (tIfS (tNot (tB (tCall sp_lets_at [] C8.E0 (tCons (tVar 0) (tCons (tVar 1) (tCons (tVar 4) (tCons (tVar 2) tNil)))))))
  (tRet (tTup (tCons (tC (.bl false)) (tCons (tVar 1) tNil))))
  tNext)
  (tAsg (tCall sp_counted_at [] C8.E0 (tCons (tVar 0) (tCons (tVar 1) (tCons (tVar 4) (tCons (tVar 2) tNil))))) (gName 1))))
  (tRet (tTup (tCons (tC (.bl true)) (tCons (tVar 1) tNil)))))))
theorem w_after_ask {P : Program} {w : World} {K : PySem.W.Frag} {mg : Str → Option Value} {base : Heap} {C CC aSCOPES aTICK f : Addr} {cdv : Value} {A : Around} {outer : List Env} {s : Shared} {H : Hp} {E : XK} {sp_answer_at sp_lets_at sp_counted_at : Sp} (F : Ft P w K mg base C CC aSCOPES aTICK) (hr : Room 5 (XX P w K mg base d_after_ask N_after_ask f cdv A outer s H E).A) (c_answer_at : C8.Cal P w K mg base 5 "answer_at" sp_answer_at []) (c_lets_at : C8.Cal P w K mg base 4 "lets_at" sp_lets_at []) (c_counted_at : C8.Cal P w K mg base 4 "counted_at" sp_counted_at []) :
    PSs (XX P w K mg base d_after_ask N_after_ask f cdv A outer s H E) (defBody s_after_ask) (t_after_ask (XX P w K mg base d_after_ask N_after_ask f cdv A outer s H E) C CC aSCOPES aTICK sp_answer_at sp_lets_at sp_counted_at) :=
  (pss_cons (ps_set (i := 3) sc_after_ask.nd rfl (by first | exact Or.inl rfl | exact Or.inr rfl) (C8.pe_c c_answer_at hr (by decide) rfl (pa_cons (pv 0) (pa_cons (pv 1) (pa_cons (pv 2) pa_nil)))))
  (pss_cons (ps_if (PW.pt (pw_and (pt_not (pt_val (pv 3))) (pw_and1 (pt_not (pt_val (pe_fld (pv 0) rfl))))))
  (pss_one (ps_ret (pe_tup (pa_cons pe_bl (pa_cons (pv 1) pa_nil)))))
  pss_nil)
  (pss_cons (ps_for PassesOwn.never rfl (pi_range1 rfl F.range (pa_cons (pe_callB call_lenU rfl F.len boot_len (pa_cons (pe_fld (pv 0) rfl) pa_nil)) pa_nil)) (pg_name (i := 4) sc_after_ask.nd rfl (by first | exact Or.inl rfl | exact Or.inr rfl))
  (pss_cons (ps_if (pt_not (pt_val (C8.pe_c c_lets_at hr (by decide) rfl (pa_cons (pv 0) (pa_cons (pv 1) (pa_cons (pv 4) (pa_cons (pv 2) pa_nil)))))))
  (pss_one (ps_ret (pe_tup (pa_cons pe_bl (pa_cons (pv 1) pa_nil)))))
  pss_nil)
  (pss_one (ps_set (i := 1) sc_after_ask.nd rfl (by first | exact Or.inl rfl | exact Or.inr rfl) (C8.pe_c c_counted_at hr (by decide) rfl (pa_cons (pv 0) (pa_cons (pv 1) (pa_cons (pv 4) (pa_cons (pv 2) pa_nil)))))))))
  (pss_one (ps_ret (pe_tup (pa_cons pe_bl (pa_cons (pv 1) pa_nil))))))))
def l_after_ask : Nat := 6
abbrev N_after_event : List Str := ["chain", "value", "event"]
abbrev P_after_event : List Str := ["chain", "value", "event"]
theorem sc_after_event : FnScope N_after_event P_after_event (defScope s_after_event) := ⟨rfl, rfl, rfl, by decide +kernel, rfl, by decide +kernel, by decide +kernel⟩
def t_after_event (X : Cx) (C CC aSCOPES aTICK : Addr) (sp_after_tick sp_after_ask : Sp) : TS := (tRet (tIf (tTest (tOp (rEqU (gs X C)) (tVar 2) (tC (.ref aTICK)))) (tTup (tCons (tC .non) (tCons (tCall sp_after_tick [] C8.E0 (tCons (tVar 0) (tCons (tVar 1) tNil))) tNil))) (tCall sp_after_ask [] C8.E0 (tCons (tVar 0) (tCons (tVar 1) (tCons (tOp (rIxU (gs X C)) (tVar 2) (tC (.int 1))) tNil))))))
theorem w_after_event {P : Program} {w : World} {K : PySem.W.Frag} {mg : Str → Option Value} {base : Heap} {C CC aSCOPES aTICK f : Addr} {cdv : Value} {A : Around} {outer : List Env} {s : Shared} {H : Hp} {E : XK} {sp_after_tick sp_after_ask : Sp} (F : Ft P w K mg base C CC aSCOPES aTICK) (hr : Room 6 (XX P w K mg base d_after_event N_after_event f cdv A outer s H E).A) (c_after_tick : C8.Cal P w K mg base 4 "after_tick" sp_after_tick []) (c_after_ask : C8.Cal P w K mg base 6 "after_ask" sp_after_ask []) :
    PSs (XX P w K mg base d_after_event N_after_event f cdv A outer s H E) (defBody s_after_event) (t_after_event (XX P w K mg base d_after_event N_after_event f cdv A outer s H E) C CC aSCOPES aTICK sp_after_tick sp_after_ask) :=
  (pss_one (ps_ret (pe_ifExp (pt_cmpR (op_eqU hr.units) (pv 2) (C8.pe_gc rfl F.TICK) (nomark _)) (pe_tup (pa_cons pe_non (pa_cons (C8.pe_c c_after_tick hr (by decide) rfl (pa_cons (pv 0) (pa_cons (pv 1) pa_nil))) pa_nil))) (C8.pe_c c_after_ask hr (by decide) rfl (pa_cons (pv 0) (pa_cons (pv 1) (pa_cons (pe_ix (ix_U hr.units) (pv 2) pe_int (fun _ _ => rfl)) pa_nil)))))))
def l_after_event : Nat := 7
abbrev N_reached : List Str := ["chain", "start", "known", "layer", "fresh", "value", "event", "later"]
abbrev P_reached : List Str := ["chain"]
theorem sc_reached : FnScope N_reached P_reached (defScope s_reached) := ⟨rfl, rfl, rfl, by decide +kernel, rfl, by decide +kernel, by decide +kernel⟩
def t_reached (X : Cx) (C CC aSCOPES aTICK : Addr) (sp_first_state sp_events_of sp_after_event : Sp) : TS := (tSeq (tAsg (tCall sp_first_state [] C8.E0 (tCons (tVar 0) tNil)) (gName 1))
  (tSeq (tPar 2 3 (tCons (tDOne X C (tVar 1) (tC (.bl true))) (tCons (tLst (tCons (tVar 1) tNil)) tNil)))
  (tSeq (tWhile (tTest (tOp (rNeU (gs X C)) (tVar 3) (tLst tNil)))
  (tSeq (tAsg (tDNew X) (gName 4))
  (tSeq (tFor (iList X.K (tVar 3)) (gName 5)
  (tFor (iList X.K (tCall sp_events_of [] C8.E0 (tCons (tVar 0) tNil))) (gName 6)
  (tSeq (tAsg (tOp (rIxU (gs X C)) (tCall sp_after_event [] C8.E0 (tCons (tVar 0) (tCons (tVar 5) (tCons (tVar 6) tNil)))) (tC (.int 1))) (gName 7))
  (tIfS (tTest (tOp (rNiU (gs X C)) (tVar 7) (tVar 2)))
  (tAsg (tC (.bl true)) (gSub (tVar 4) (tVar 7) (rDSet X C)))
  tNext))))
  (tSeq (tDrop (tBMD X C (rDUpd X C) (tVar 2) (tCons (tVar 4) tNil)))
  (tSeq (tIfS (tTest (tOp (rI0 fun i j => .bl (decide (j < i))) (tCB (rLenU (gs X C)) (tCons (tVar 2) tNil)) (tC (.int 60))))
  tNever
  tNext)
  (tAsg (tCB (rLstU (gs X C)) (tCons (tVar 4) tNil)) (gName 3)))))))
  (tRet (tCB (rLstU (gs X C)) (tCons (tVar 2) tNil))))))
theorem w_reached {P : Program} {w : World} {K : PySem.W.Frag} {mg : Str → Option Value} {base : Heap} {C CC aSCOPES aTICK f : Addr} {cdv : Value} {A : Around} {outer : List Env} {s : Shared} {H : Hp} {E : XK} {sp_first_state sp_events_of sp_after_event : Sp} (F : Ft P w K mg base C CC aSCOPES aTICK) (hr : Room 7 (XX P w K mg base d_reached N_reached f cdv A outer s H E).A) (c_first_state : C8.Cal P w K mg base 4 "first_state" sp_first_state []) (c_events_of : C8.Cal P w K mg base 3 "events_of" sp_events_of []) (c_after_event : C8.Cal P w K mg base 7 "after_event" sp_after_event []) :
    PSs (XX P w K mg base d_reached N_reached f cdv A outer s H E) (defBody s_reached) (t_reached (XX P w K mg base d_reached N_reached f cdv A outer s H E) C CC aSCOPES aTICK sp_first_state sp_events_of sp_after_event) :=
  (pss_cons (ps_set (i := 1) sc_reached.nd rfl (by first | exact Or.inl rfl | exact Or.inr rfl) (C8.pe_c c_first_state hr (by decide) rfl (pa_cons (pv 0) pa_nil)))
  (pss_cons (ps_par (i := 2) (j := 3) rfl sc_reached.nd rfl rfl (by decide) rfl rfl (pa_cons (pe_done hr.units (pv 1) pe_bl) (pa_cons (pe_lst (pa_cons (pv 1) pa_nil)) pa_nil)) rfl)
  (pss_cons (ps_while PassesOwn.never (pt_cmpR (op_neU hr.units) (pv 3) (pe_lst pa_nil) (nomark _))
  (pss_cons (ps_set (i := 4) sc_reached.nd rfl (by first | exact Or.inl rfl | exact Or.inr rfl) pe_dnew)
  (pss_cons (ps_for PassesOwn.never rfl (pi_list (pv 3)) (pg_name (i := 5) sc_reached.nd rfl (by first | exact Or.inl rfl | exact Or.inr rfl))
  (pss_one (ps_for PassesOwn.never rfl (pi_list (C8.pe_c c_events_of hr (by decide) rfl (pa_cons (pv 0) pa_nil))) (pg_name (i := 6) sc_reached.nd rfl (by first | exact Or.inl rfl | exact Or.inr rfl))
  (pss_cons (ps_set (i := 7) sc_reached.nd rfl (by first | exact Or.inl rfl | exact Or.inr rfl) (pe_ix (ix_U hr.units) (C8.pe_c c_after_event hr (by decide) rfl (pa_cons (pv 0) (pa_cons (pv 5) (pa_cons (pv 6) pa_nil)))) pe_int (fun _ _ => rfl)))
  (pss_one (ps_if (pt_cmpR (op_niU (Room_u65 hr)) (pv 7) (pv 2) rfl)
  (pss_one (ps_asg pe_bl (pg_sub (pv 4) (pv 7) (set_dct hr.units))))
  pss_nil))))))
  (pss_cons (ps_expr (pe_bmD PySem.F.slot_dict_update PySem.F.type_dict_update (mt_dupd hr.units) (pv 2) (pa_cons (pv 4) pa_nil)))
  (pss_cons (ps_if (pt_cmpR op_gt (pe_callB call_lenU rfl F.len boot_len (pa_cons (pv 2) pa_nil)) (C8.pe_gc rfl F.MAX_STATES) (nomark _))
  (pss_one ps_never)
  pss_nil)
  (pss_one (ps_set (i := 3) sc_reached.nd rfl (by first | exact Or.inl rfl | exact Or.inr rfl) (pe_callTy (call_lstU rfl) rfl F.list boot_list (pa_cons (pv 4) pa_nil)))))))))
  (pss_one (ps_ret (pe_callTy (call_lstU rfl) rfl F.list boot_list (pa_cons (pv 2) pa_nil)))))))
def l_reached : Nat := 8
abbrev N_states : List Str := ["chain"]
abbrev P_states : List Str := ["chain"]
theorem sc_states : FnScope N_states P_states (defScope s_states) := ⟨rfl, rfl, rfl, by decide +kernel, rfl, by decide +kernel, by decide +kernel⟩
def t_states (X : Cx) (C CC aSCOPES aTICK : Addr) (sp_check_chain sp_reached : Sp) : TS := (tSeq (tDrop (tCall sp_check_chain [] C8.E0 (tCons (tVar 0) tNil)))
  (tRet (tCall sp_reached [] C8.E0 (tCons (tVar 0) tNil))))
theorem w_states {P : Program} {w : World} {K : PySem.W.Frag} {mg : Str → Option Value} {base : Heap} {C CC aSCOPES aTICK f : Addr} {cdv : Value} {A : Around} {outer : List Env} {s : Shared} {H : Hp} {E : XK} {sp_check_chain sp_reached : Sp} (F : Ft P w K mg base C CC aSCOPES aTICK) (hr : Room 8 (XX P w K mg base d_states N_states f cdv A outer s H E).A) (c_check_chain : C8.Cal P w K mg base 3 "check_chain" sp_check_chain []) (c_reached : C8.Cal P w K mg base 8 "reached" sp_reached []) :
    PSs (XX P w K mg base d_states N_states f cdv A outer s H E) (defBody s_states) (t_states (XX P w K mg base d_states N_states f cdv A outer s H E) C CC aSCOPES aTICK sp_check_chain sp_reached) :=
  (pss_cons (ps_expr (C8.pe_c c_check_chain hr (by decide) rfl (pa_cons (pv 0) pa_nil)))
  (pss_one (ps_ret (C8.pe_c c_reached hr (by decide) rfl (pa_cons (pv 0) pa_nil)))))
def l_states : Nat := 9
abbrev N_grouped : List Str := ["rows", "numbers", "value", "key"]
abbrev P_grouped : List Str := ["rows"]
theorem sc_grouped : FnScope N_grouped P_grouped (defScope s_grouped) := ⟨rfl, rfl, rfl, by decide +kernel, rfl, by decide +kernel, by decide +kernel⟩
def t_grouped (X : Cx) (C CC aSCOPES aTICK : Addr) : TS := (tSeq (tAsg (tDNew X) (gName 1))
  (tRet (tDcX (gs X C) (iDP (tVar 0)) (gTup X.K 2 (gCons (gName 2) (gCons (gName 3) gNil))) tYes (tVar 2) (tBMD X C (rDSd X C) (tVar 1) (tCons (tVar 3) (tCons (tCB (rLenU (gs X C)) (tCons (tVar 1) tNil)) tNil))) [2, 3])))
theorem w_grouped {P : Program} {w : World} {K : PySem.W.Frag} {mg : Str → Option Value} {base : Heap} {C CC aSCOPES aTICK f : Addr} {cdv : Value} {A : Around} {outer : List Env} {s : Shared} {H : Hp} {E : XK} (F : Ft P w K mg base C CC aSCOPES aTICK) (hr : Room 2 (XX P w K mg base d_grouped N_grouped f cdv A outer s H E).A) :
    PSs (XX P w K mg base d_grouped N_grouped f cdv A outer s H E) (defBody s_grouped) (t_grouped (XX P w K mg base d_grouped N_grouped f cdv A outer s H E) C CC aSCOPES aTICK ) :=
  (pss_cons (ps_set (i := 1) sc_grouped.nd rfl (by first | exact Or.inl rfl | exact Or.inr rfl) pe_dnew)
  (pss_one (ps_ret (pe_dcx (C := C) (own := [("value", 2), ("key", 3)]) hr.units rfl sc_grouped.nd (pi_dp (pv 0)) (blkOk_by (N := N_grouped) (sc := defScope s_grouped) (by decide +kernel)) ⟨fun _ _ _ _ _ => (pg_tup rfl (pgs_cons (pg_name (i := 2) sc_grouped.nd rfl (by first | exact Or.inl rfl | exact Or.inr rfl)) (pgs_cons (pg_name (i := 3) sc_grouped.nd rfl (by first | exact Or.inl rfl | exact Or.inr rfl)) pgs_nil))), fun _ _ _ _ _ => pts_nil, fun _ _ _ _ _ => (pv 2), fun _ _ _ _ _ => (pe_bmD PySem.F.slot_dict_setdefault PySem.F.type_dict_setdefault (mt_dsd hr.units) (pv 1) (pa_cons (pv 3) (pa_cons (pe_callB call_lenU rfl F.len boot_len (pa_cons (pv 1) pa_nil)) pa_nil)))⟩))))
def l_grouped : Nat := 3
abbrev N_groups_of : List Str := ["chain", "values", "found", "many", "value", "number"]
abbrev P_groups_of : List Str := ["chain", "values"]
theorem sc_groups_of : FnScope N_groups_of P_groups_of (defScope s_groups_of) := ⟨rfl, rfl, rfl, by decide +kernel, rfl, by decide +kernel, by decide +kernel⟩
def t_groups_of (X : Cx) (C CC aSCOPES aTICK : Addr) (sp_key_of sp_grouped : Sp) : TS := (tSeq (tAsg (tDcX (gs X C) (iList X.K (tVar 1)) (gName 4) tYes (tVar 4) (tC (.int 0)) [4]) (gName 2))
  (tSeq (tAsg (tC (.int 0)) (gName 3))
  (tSeq (tWhile (tTest (tOp (rI0 fun i j => .bl (decide (i < j))) (tVar 3) (tCB (rLenU (gs X C)) (tCons (tDcX (gs X C) (iDV (tVar 2)) (gName 5) tYes (tVar 5) (tC (.bl true)) [5]) tNil))))
  (tSeq (tAsg (tCB (rLenU (gs X C)) (tCons (tDcX (gs X C) (iDV (tVar 2)) (gName 5) tYes (tVar 5) (tC (.bl true)) [5]) tNil)) (gName 3))
  (tAsg (tCall sp_grouped [] C8.E0 (tCons (tDcX (gs X C) (iList X.K (tVar 1)) (gName 4) tYes (tVar 4) (tCall sp_key_of [] C8.E0 (tCons (tVar 0) (tCons (tVar 4) (tCons (tVar 2) tNil)))) [4]) tNil)) (gName 2))))
  (tRet (tVar 2)))))
theorem w_groups_of {P : Program} {w : World} {K : PySem.W.Frag} {mg : Str → Option Value} {base : Heap} {C CC aSCOPES aTICK f : Addr} {cdv : Value} {A : Around} {outer : List Env} {s : Shared} {H : Hp} {E : XK} {sp_key_of sp_grouped : Sp} (F : Ft P w K mg base C CC aSCOPES aTICK) (hr : Room 9 (XX P w K mg base d_groups_of N_groups_of f cdv A outer s H E).A) (c_key_of : C8.Cal P w K mg base 9 "key_of" sp_key_of []) (c_grouped : C8.Cal P w K mg base 3 "grouped" sp_grouped []) :
    PSs (XX P w K mg base d_groups_of N_groups_of f cdv A outer s H E) (defBody s_groups_of) (t_groups_of (XX P w K mg base d_groups_of N_groups_of f cdv A outer s H E) C CC aSCOPES aTICK sp_key_of sp_grouped) :=
  (pss_cons (ps_set (i := 2) sc_groups_of.nd rfl (by first | exact Or.inl rfl | exact Or.inr rfl) (pe_dcx (C := C) (own := [("value", 4)]) hr.units rfl sc_groups_of.nd (pi_list (pv 1)) (blkOk_by (N := N_groups_of) (sc := defScope s_groups_of) (by decide +kernel)) ⟨fun _ _ _ _ _ => (pg_name (i := 4) sc_groups_of.nd rfl (by first | exact Or.inl rfl | exact Or.inr rfl)), fun _ _ _ _ _ => pts_nil, fun _ _ _ _ _ => (pv 4), fun _ _ _ _ _ => pe_int⟩))
  (pss_cons (ps_set (i := 3) sc_groups_of.nd rfl (by first | exact Or.inl rfl | exact Or.inr rfl) pe_int)
  (pss_cons (ps_while PassesOwn.never (pt_cmpR op_lt (pv 3) (pe_callB call_lenU rfl F.len boot_len (pa_cons (pe_dcx (C := C) (own := [("number", 5)]) hr.units rfl sc_groups_of.nd (pi_dv (pv 2)) (blkOk_by (N := N_groups_of) (sc := defScope s_groups_of) (by decide +kernel)) ⟨fun _ _ _ _ _ => (pg_name (i := 5) sc_groups_of.nd rfl (by first | exact Or.inl rfl | exact Or.inr rfl)), fun _ _ _ _ _ => pts_nil, fun _ _ _ _ _ => (pv 5), fun _ _ _ _ _ => pe_bl⟩) pa_nil)) (nomark _))
  (pss_cons (ps_set (i := 3) sc_groups_of.nd rfl (by first | exact Or.inl rfl | exact Or.inr rfl) (pe_callB call_lenU rfl F.len boot_len (pa_cons (pe_dcx (C := C) (own := [("number", 5)]) hr.units rfl sc_groups_of.nd (pi_dv (pv 2)) (blkOk_by (N := N_groups_of) (sc := defScope s_groups_of) (by decide +kernel)) ⟨fun _ _ _ _ _ => (pg_name (i := 5) sc_groups_of.nd rfl (by first | exact Or.inl rfl | exact Or.inr rfl)), fun _ _ _ _ _ => pts_nil, fun _ _ _ _ _ => (pv 5), fun _ _ _ _ _ => pe_bl⟩) pa_nil)))
  (pss_one (ps_set (i := 2) sc_groups_of.nd rfl (by first | exact Or.inl rfl | exact Or.inr rfl) (C8.pe_c c_grouped hr (by decide) rfl (pa_cons (pe_dcx (C := C) (own := [("value", 4)]) hr.units rfl sc_groups_of.nd (pi_list (pv 1)) (blkOk_by (N := N_groups_of) (sc := defScope s_groups_of) (by decide +kernel)) ⟨fun _ _ _ _ _ => (pg_name (i := 4) sc_groups_of.nd rfl (by first | exact Or.inl rfl | exact Or.inr rfl)), fun _ _ _ _ _ => pts_nil, fun _ _ _ _ _ => (pv 4), fun _ _ _ _ _ => (C8.pe_c c_key_of hr (by decide) rfl (pa_cons (pv 0) (pa_cons (pv 4) (pa_cons (pv 2) pa_nil))))⟩) pa_nil))))))
  (pss_one (ps_ret (pv 2))))))
def l_groups_of : Nat := 10
abbrev N_key_of : List Str := ["chain", "value", "found", "event"]
abbrev P_key_of : List Str := ["chain", "value", "found"]
theorem sc_key_of : FnScope N_key_of P_key_of (defScope s_key_of) := ⟨rfl, rfl, rfl, by decide +kernel, rfl, by decide +kernel, by decide +kernel⟩
def t_key_of (X : Cx) (C CC aSCOPES aTICK : Addr) (sp_events_of sp_looked : Sp) : TS := (tRet (tTup (tCons (tOp (rIxU (gs X C)) (tVar 2) (tVar 1)) (StX.tStar X.K (tLc (iList X.K (tCall sp_events_of [] C8.E0 (tCons (tVar 0) tNil))) (gName 3) tYes (tCall sp_looked [] C8.E0 (tCons (tVar 0) (tCons (tVar 1) (tCons (tVar 3) (tCons (tVar 2) tNil))))) [3]) tNil))))
theorem w_key_of {P : Program} {w : World} {K : PySem.W.Frag} {mg : Str → Option Value} {base : Heap} {C CC aSCOPES aTICK f : Addr} {cdv : Value} {A : Around} {outer : List Env} {s : Shared} {H : Hp} {E : XK} {sp_events_of sp_looked : Sp} (F : Ft P w K mg base C CC aSCOPES aTICK) (hr : Room 8 (XX P w K mg base d_key_of N_key_of f cdv A outer s H E).A) (c_events_of : C8.Cal P w K mg base 3 "events_of" sp_events_of []) (c_looked : C8.Cal P w K mg base 8 "looked" sp_looked []) :
    PSs (XX P w K mg base d_key_of N_key_of f cdv A outer s H E) (defBody s_key_of) (t_key_of (XX P w K mg base d_key_of N_key_of f cdv A outer s H E) C CC aSCOPES aTICK sp_events_of sp_looked) :=
  (pss_one (ps_ret (pe_tup (pa_cons (pe_ix (ix_U hr.units) (pv 2) (pv 1) (fun _ _ => rfl)) (StX.pa_star (pe_lc (own := [("event", 3)]) rfl sc_key_of.nd (pi_list (C8.pe_c c_events_of hr (by decide) rfl (pa_cons (pv 0) pa_nil))) (blkOk_by (N := N_key_of) (sc := defScope s_key_of) (by decide +kernel)) (fun _ _ _ _ _ => (pg_name (i := 3) sc_key_of.nd rfl (by first | exact Or.inl rfl | exact Or.inr rfl))) (fun _ _ _ _ _ => pts_nil) (fun _ _ _ _ _ => (C8.pe_c c_looked hr (by decide) rfl (pa_cons (pv 0) (pa_cons (pv 1) (pa_cons (pv 3) (pa_cons (pv 2) pa_nil))))))) pa_nil)))))
def l_key_of : Nat := 9
abbrev N_looked : List Str := ["chain", "value", "event", "found", "answer", "later"]
abbrev P_looked : List Str := ["chain", "value", "event", "found"]
theorem sc_looked : FnScope N_looked P_looked (defScope s_looked) := ⟨rfl, rfl, rfl, by decide +kernel, rfl, by decide +kernel, by decide +kernel⟩
def t_looked (X : Cx) (C CC aSCOPES aTICK : Addr) (sp_after_event : Sp) : TS := (tSeq (tAsg (tCall sp_after_event [] C8.E0 (tCons (tVar 0) (tCons (tVar 1) (tCons (tVar 2) tNil)))) (gTup X.K 2 (gCons (gName 4) (gCons (gName 5) gNil))))
  (tRet (tTup (tCons (tVar 4) (tCons (tOp (rIxU (gs X C)) (tVar 3) (tVar 5)) tNil)))))
theorem w_looked {P : Program} {w : World} {K : PySem.W.Frag} {mg : Str → Option Value} {base : Heap} {C CC aSCOPES aTICK f : Addr} {cdv : Value} {A : Around} {outer : List Env} {s : Shared} {H : Hp} {E : XK} {sp_after_event : Sp} (F : Ft P w K mg base C CC aSCOPES aTICK) (hr : Room 7 (XX P w K mg base d_looked N_looked f cdv A outer s H E).A) (c_after_event : C8.Cal P w K mg base 7 "after_event" sp_after_event []) :
    PSs (XX P w K mg base d_looked N_looked f cdv A outer s H E) (defBody s_looked) (t_looked (XX P w K mg base d_looked N_looked f cdv A outer s H E) C CC aSCOPES aTICK sp_after_event) :=
  (pss_cons (ps_asg (C8.pe_c c_after_event hr (by decide) rfl (pa_cons (pv 0) (pa_cons (pv 1) (pa_cons (pv 2) pa_nil)))) (pg_tup rfl (pgs_cons (pg_name (i := 4) sc_looked.nd rfl (by first | exact Or.inl rfl | exact Or.inr rfl)) (pgs_cons (pg_name (i := 5) sc_looked.nd rfl (by first | exact Or.inl rfl | exact Or.inr rfl)) pgs_nil))))
  (pss_one (ps_ret (pe_tup (pa_cons (pv 4) (pa_cons (pe_ix (ix_U hr.units) (pv 3) (pv 5) (fun _ _ => rfl)) pa_nil))))))
def l_looked : Nat := 8
abbrev N_parting_of : List Str := ["chain", "one", "other", "pairs", "layer", "fresh", "pair", "event", "mine", "here", "theirs", "there"]
abbrev P_parting_of : List Str := ["chain", "one", "other"]
theorem sc_parting_of : FnScope N_parting_of P_parting_of (defScope s_parting_of) := ⟨rfl, rfl, rfl, by decide +kernel, rfl, by decide +kernel, by decide +kernel⟩
def t_parting_of (X : Cx) (C CC aSCOPES aTICK : Addr) (sp_events_of sp_after_event : Sp) : TS := (tSeq (tPar 3 4 (tCons (tDOne X C (tTup (tCons (tVar 1) (tCons (tVar 2) tNil))) (tTup tNil)) (tCons (tLst (tCons (tTup (tCons (tVar 1) (tCons (tVar 2) tNil))) tNil)) tNil)))
  (tSeq (tWhile (tTest (tOp (rNeU (gs X C)) (tVar 4) (tLst tNil)))
  (tSeq (tAsg (tDNew X) (gName 5))
  (tSeq (tFor (iList X.K (tVar 4)) (gName 6)
  (tFor (iList X.K (tCall sp_events_of [] C8.E0 (tCons (tVar 0) tNil))) (gName 7)
  (tSeq (tAsg (tCall sp_after_event [] C8.E0 (tCons (tVar 0) (tCons (tOp (rIxU (gs X C)) (tVar 6) (tC (.int 0))) (tCons (tVar 7) tNil)))) (gTup X.K 2 (gCons (gName 8) (gCons (gName 9) gNil))))
  (tSeq (tAsg (tCall sp_after_event [] C8.E0 (tCons (tVar 0) (tCons (tOp (rIxU (gs X C)) (tVar 6) (tC (.int 1))) (tCons (tVar 7) tNil)))) (gTup X.K 2 (gCons (gName 10) (gCons (gName 11) gNil))))
  (tSeq (tIfS (tTest (tOp (rNeU (gs X C)) (tVar 8) (tVar 10)))
  (tRet (tTup (StX.tStar X.K (tOp (rIxU (gs X C)) (tVar 3) (tVar 6)) (tCons (tVar 7) tNil))))
  tNext)
  (tIfS (tAnd (tTest (tOp (rNiU (gs X C)) (tTup (tCons (tVar 9) (tCons (tVar 11) tNil))) (tVar 3))) (tTest (tOp (rNiU (gs X C)) (tTup (tCons (tVar 9) (tCons (tVar 11) tNil))) (tVar 5))))
  (tAsg (tTup (StX.tStar X.K (tOp (rIxU (gs X C)) (tVar 3) (tVar 6)) (tCons (tVar 7) tNil))) (gSub (tVar 5) (tTup (tCons (tVar 9) (tCons (tVar 11) tNil))) (rDSet X C)))
  tNext))))))
  (tSeq (tDrop (tBMD X C (rDUpd X C) (tVar 3) (tCons (tVar 5) tNil)))
  (tAsg (tCB (rLstU (gs X C)) (tCons (tVar 5) tNil)) (gName 4))))))
  (tRet (tC .non))))
theorem w_parting_of {P : Program} {w : World} {K : PySem.W.Frag} {mg : Str → Option Value} {base : Heap} {C CC aSCOPES aTICK f : Addr} {cdv : Value} {A : Around} {outer : List Env} {s : Shared} {H : Hp} {E : XK} {sp_events_of sp_after_event : Sp} (F : Ft P w K mg base C CC aSCOPES aTICK) (hr : Room 7 (XX P w K mg base d_parting_of N_parting_of f cdv A outer s H E).A) (c_events_of : C8.Cal P w K mg base 3 "events_of" sp_events_of []) (c_after_event : C8.Cal P w K mg base 7 "after_event" sp_after_event []) :
    PSs (XX P w K mg base d_parting_of N_parting_of f cdv A outer s H E) (defBody s_parting_of) (t_parting_of (XX P w K mg base d_parting_of N_parting_of f cdv A outer s H E) C CC aSCOPES aTICK sp_events_of sp_after_event) :=
  (pss_cons (ps_par (i := 3) (j := 4) rfl sc_parting_of.nd rfl rfl (by decide) rfl rfl (pa_cons (pe_done hr.units (pe_tup (pa_cons (pv 1) (pa_cons (pv 2) pa_nil))) (pe_tup pa_nil)) (pa_cons (pe_lst (pa_cons (pe_tup (pa_cons (pv 1) (pa_cons (pv 2) pa_nil))) pa_nil)) pa_nil)) rfl)
  (pss_cons (ps_while PassesOwn.never (pt_cmpR (op_neU hr.units) (pv 4) (pe_lst pa_nil) (nomark _))
  (pss_cons (ps_set (i := 5) sc_parting_of.nd rfl (by first | exact Or.inl rfl | exact Or.inr rfl) pe_dnew)
  (pss_cons (ps_for PassesOwn.never rfl (pi_list (pv 4)) (pg_name (i := 6) sc_parting_of.nd rfl (by first | exact Or.inl rfl | exact Or.inr rfl))
  (pss_one (ps_for PassesOwn.never rfl (pi_list (C8.pe_c c_events_of hr (by decide) rfl (pa_cons (pv 0) pa_nil))) (pg_name (i := 7) sc_parting_of.nd rfl (by first | exact Or.inl rfl | exact Or.inr rfl))
  (pss_cons (ps_asg (C8.pe_c c_after_event hr (by decide) rfl (pa_cons (pv 0) (pa_cons (pe_ix (ix_U hr.units) (pv 6) pe_int (fun _ _ => rfl)) (pa_cons (pv 7) pa_nil)))) (pg_tup rfl (pgs_cons (pg_name (i := 8) sc_parting_of.nd rfl (by first | exact Or.inl rfl | exact Or.inr rfl)) (pgs_cons (pg_name (i := 9) sc_parting_of.nd rfl (by first | exact Or.inl rfl | exact Or.inr rfl)) pgs_nil))))
  (pss_cons (ps_asg (C8.pe_c c_after_event hr (by decide) rfl (pa_cons (pv 0) (pa_cons (pe_ix (ix_U hr.units) (pv 6) pe_int (fun _ _ => rfl)) (pa_cons (pv 7) pa_nil)))) (pg_tup rfl (pgs_cons (pg_name (i := 10) sc_parting_of.nd rfl (by first | exact Or.inl rfl | exact Or.inr rfl)) (pgs_cons (pg_name (i := 11) sc_parting_of.nd rfl (by first | exact Or.inl rfl | exact Or.inr rfl)) pgs_nil))))
  (pss_cons (ps_if (pt_cmpR (op_neU hr.units) (pv 8) (pv 10) (nomark _))
  (pss_one (ps_ret (pe_tup (StX.pa_star (pe_ix (ix_U hr.units) (pv 3) (pv 6) (fun _ _ => rfl)) (pa_cons (pv 7) pa_nil)))))
  pss_nil)
  (pss_one (ps_if (PW.pt (pw_and (pt_cmpR (op_niU (Room_u65 hr)) (pe_tup (pa_cons (pv 9) (pa_cons (pv 11) pa_nil))) (pv 3) rfl) (pw_and1 (pt_cmpR (op_niU (Room_u65 hr)) (pe_tup (pa_cons (pv 9) (pa_cons (pv 11) pa_nil))) (pv 5) rfl))))
  (pss_one (ps_asg (pe_tup (StX.pa_star (pe_ix (ix_U hr.units) (pv 3) (pv 6) (fun _ _ => rfl)) (pa_cons (pv 7) pa_nil))) (pg_sub (pv 5) (pe_tup (pa_cons (pv 9) (pa_cons (pv 11) pa_nil))) (set_dct hr.units))))
  pss_nil))))))))
  (pss_cons (ps_expr (pe_bmD PySem.F.slot_dict_update PySem.F.type_dict_update (mt_dupd hr.units) (pv 3) (pa_cons (pv 5) pa_nil)))
  (pss_one (ps_set (i := 4) sc_parting_of.nd rfl (by first | exact Or.inl rfl | exact Or.inr rfl) (pe_callTy (call_lstU rfl) rfl F.list boot_list (pa_cons (pv 5) pa_nil))))))))
  (pss_one (ps_ret pe_non))))
def l_parting_of : Nat := 8
abbrev N_does_part : List Str := ["chain", "one", "other", "history", "is_parted", "event", "mine", "theirs"]
abbrev P_does_part : List Str := ["chain", "one", "other", "history"]
theorem sc_does_part : FnScope N_does_part P_does_part (defScope s_does_part) := ⟨rfl, rfl, rfl, by decide +kernel, rfl, by decide +kernel, by decide +kernel⟩
def t_does_part (X : Cx) (C CC aSCOPES aTICK : Addr) (sp_after_event : Sp) : TS := (tSeq (tAsg (tC (.bl false)) (gName 4))
  (tSeq (tFor (iTup X.K (tVar 3)) (gName 5)
  (tSeq (tAsg (tCall sp_after_event [] C8.E0 (tCons (tVar 0) (tCons (tVar 1) (tCons (tVar 5) tNil)))) (gTup X.K 2 (gCons (gName 6) (gCons (gName 1) gNil))))
  (tSeq (tAsg (tCall sp_after_event [] C8.E0 (tCons (tVar 0) (tCons (tVar 2) (tCons (tVar 5) tNil)))) (gTup X.K 2 (gCons (gName 7) (gCons (gName 2) gNil))))
  (tSeq (tIfS (tB (tVar 4))
  (tRet (tC (.bl false)))
  tNext)
  (tAsg (tOp (rNeU (gs X C)) (tVar 6) (tVar 7)) (gName 4))))))
  (tRet (tVar 4))))
theorem w_does_part {P : Program} {w : World} {K : PySem.W.Frag} {mg : Str → Option Value} {base : Heap} {C CC aSCOPES aTICK f : Addr} {cdv : Value} {A : Around} {outer : List Env} {s : Shared} {H : Hp} {E : XK} {sp_after_event : Sp} (F : Ft P w K mg base C CC aSCOPES aTICK) (hr : Room 7 (XX P w K mg base d_does_part N_does_part f cdv A outer s H E).A) (c_after_event : C8.Cal P w K mg base 7 "after_event" sp_after_event []) :
    PSs (XX P w K mg base d_does_part N_does_part f cdv A outer s H E) (defBody s_does_part) (t_does_part (XX P w K mg base d_does_part N_does_part f cdv A outer s H E) C CC aSCOPES aTICK sp_after_event) :=
  (pss_cons (ps_set (i := 4) sc_does_part.nd rfl (by first | exact Or.inl rfl | exact Or.inr rfl) pe_bl)
  (pss_cons (ps_for PassesOwn.never rfl (pi_tup (pv 3)) (pg_name (i := 5) sc_does_part.nd rfl (by first | exact Or.inl rfl | exact Or.inr rfl))
  (pss_cons (ps_asg (C8.pe_c c_after_event hr (by decide) rfl (pa_cons (pv 0) (pa_cons (pv 1) (pa_cons (pv 5) pa_nil)))) (pg_tup rfl (pgs_cons (pg_name (i := 6) sc_does_part.nd rfl (by first | exact Or.inl rfl | exact Or.inr rfl)) (pgs_cons (pg_name (i := 1) sc_does_part.nd rfl (by first | exact Or.inl rfl | exact Or.inr rfl)) pgs_nil))))
  (pss_cons (ps_asg (C8.pe_c c_after_event hr (by decide) rfl (pa_cons (pv 0) (pa_cons (pv 2) (pa_cons (pv 5) pa_nil)))) (pg_tup rfl (pgs_cons (pg_name (i := 7) sc_does_part.nd rfl (by first | exact Or.inl rfl | exact Or.inr rfl)) (pgs_cons (pg_name (i := 2) sc_does_part.nd rfl (by first | exact Or.inl rfl | exact Or.inr rfl)) pgs_nil))))
  (pss_cons (ps_if (pt_val (pv 4))
  (pss_one (ps_ret pe_bl))
  pss_nil)
  (pss_one (ps_set (i := 4) sc_does_part.nd rfl (by first | exact Or.inl rfl | exact Or.inr rfl) (pe_cmpR (op_neU hr.units) (pv 6) (pv 7) (nomark _))))))))
  (pss_one (ps_ret (pv 4)))))
def l_does_part : Nat := 8
abbrev N_listed : List Str := ["chain", "values", "groups", "found", "value", "number"]
abbrev P_listed : List Str := ["chain"]
theorem sc_listed : FnScope N_listed P_listed (defScope s_listed) := ⟨rfl, rfl, rfl, by decide +kernel, rfl, by decide +kernel, by decide +kernel⟩
def t_listed (X : Cx) (C CC aSCOPES aTICK : Addr) (sp_reached sp_groups_of : Sp) : TS := (tSeq (tAsg (tCall sp_reached [] C8.E0 (tCons (tVar 0) tNil)) (gName 1))
  (tSeq (tAsg (tCall sp_groups_of [] C8.E0 (tCons (tVar 0) (tCons (tVar 1) tNil))) (gName 2))
  (tSeq (tAsg (tLc (iDK (tDcX (gs X C) (iDV (tVar 2)) (gName 5) tYes (tVar 5) (tC (.bl true)) [5])) (gName 5) tYes (tLst tNil) [5]) (gName 3))
  (tSeq (tFor (iList X.K (tVar 1)) (gName 4)
  (tDrop (tBM X.K "list" rAppend (tOp (rIxU (gs X C)) (tVar 3) (tOp (rIxU (gs X C)) (tVar 2) (tVar 4))) (tCons (tVar 4) tNil))))
  (tRet (tVar 3))))))
theorem w_listed {P : Program} {w : World} {K : PySem.W.Frag} {mg : Str → Option Value} {base : Heap} {C CC aSCOPES aTICK f : Addr} {cdv : Value} {A : Around} {outer : List Env} {s : Shared} {H : Hp} {E : XK} {sp_reached sp_groups_of : Sp} (F : Ft P w K mg base C CC aSCOPES aTICK) (hr : Room 10 (XX P w K mg base d_listed N_listed f cdv A outer s H E).A) (c_reached : C8.Cal P w K mg base 8 "reached" sp_reached []) (c_groups_of : C8.Cal P w K mg base 10 "groups_of" sp_groups_of []) :
    PSs (XX P w K mg base d_listed N_listed f cdv A outer s H E) (defBody s_listed) (t_listed (XX P w K mg base d_listed N_listed f cdv A outer s H E) C CC aSCOPES aTICK sp_reached sp_groups_of) :=
  (pss_cons (ps_set (i := 1) sc_listed.nd rfl (by first | exact Or.inl rfl | exact Or.inr rfl) (C8.pe_c c_reached hr (by decide) rfl (pa_cons (pv 0) pa_nil)))
  (pss_cons (ps_set (i := 2) sc_listed.nd rfl (by first | exact Or.inl rfl | exact Or.inr rfl) (C8.pe_c c_groups_of hr (by decide) rfl (pa_cons (pv 0) (pa_cons (pv 1) pa_nil))))
  (pss_cons (ps_setLc (i := 3) (own := [("number", 5)]) rfl sc_listed.nd rfl rfl (sw_true rfl rfl rfl (by decide +kernel)) (pi_dk (pe_dcx (C := C) (own := [("number", 5)]) hr.units rfl sc_listed.nd (pi_dv (pv 2)) (blkOk_by (N := N_listed) (sc := defScope s_listed) (by decide +kernel)) ⟨fun _ _ _ _ _ => (pg_name (i := 5) sc_listed.nd rfl (by first | exact Or.inl rfl | exact Or.inr rfl)), fun _ _ _ _ _ => pts_nil, fun _ _ _ _ _ => (pv 5), fun _ _ _ _ _ => pe_bl⟩)) (blkOk_by (N := N_listed) (sc := defScope s_listed) (by decide +kernel)) (fun _ _ _ _ _ => (pg_name (i := 5) sc_listed.nd rfl (by first | exact Or.inl rfl | exact Or.inr rfl))) (fun _ _ _ _ _ => pts_nil) (fun _ _ _ _ _ => (pe_lst pa_nil)))
  (pss_cons (ps_for PassesOwn.never rfl (pi_list (pv 1)) (pg_name (i := 4) sc_listed.nd rfl (by first | exact Or.inl rfl | exact Or.inr rfl))
  (pss_one (ps_expr (pe_bm PySem.F.plainAttrs_list PySem.F.slot_list_append PySem.F.type_list_append mt_append (pe_ix (ix_U hr.units) (pv 3) (pe_ix (ix_U hr.units) (pv 2) (pv 4) (fun _ _ => rfl)) (fun _ _ => rfl)) (pa_cons (pv 4) pa_nil)))))
  (pss_one (ps_ret (pv 3)))))))
def l_listed : Nat := 11
abbrev N_pairs_of : List Str := ["many", "one", "other"]
abbrev P_pairs_of : List Str := ["many"]
theorem sc_pairs_of : FnScope N_pairs_of P_pairs_of (defScope s_pairs_of) := ⟨rfl, rfl, rfl, by decide +kernel, rfl, by decide +kernel, by decide +kernel⟩
def t_pairs_of (X : Cx) (C CC aSCOPES aTICK : Addr) : TS := (tRet (tLc2 (iRng1 (tCons (tVar 0) tNil)) (gName 1) tYes (iRng2 (tCons (tOp (rAddU (gs X C)) (tVar 1) (tC (.int 1))) (tCons (tVar 0) tNil))) (gName 2) tYes (tTup (tCons (tVar 1) (tCons (tVar 2) tNil))) [1, 2] [2]))
theorem w_pairs_of {P : Program} {w : World} {K : PySem.W.Frag} {mg : Str → Option Value} {base : Heap} {C CC aSCOPES aTICK f : Addr} {cdv : Value} {A : Around} {outer : List Env} {s : Shared} {H : Hp} {E : XK} (F : Ft P w K mg base C CC aSCOPES aTICK) (hr : Room 2 (XX P w K mg base d_pairs_of N_pairs_of f cdv A outer s H E).A) :
    PSs (XX P w K mg base d_pairs_of N_pairs_of f cdv A outer s H E) (defBody s_pairs_of) (t_pairs_of (XX P w K mg base d_pairs_of N_pairs_of f cdv A outer s H E) C CC aSCOPES aTICK ) :=
  (pss_one (ps_ret (pe_lc2 (own := [("one", 1), ("other", 2)]) (vs1 := [2]) rfl sc_pairs_of.nd (pi_range1 rfl F.range (pa_cons (pv 0) pa_nil)) (blkOk_by (N := N_pairs_of) (sc := defScope s_pairs_of) (by decide +kernel)) (by decide) (fun _ _ _ _ _ => (pg_name (i := 1) sc_pairs_of.nd rfl (by first | exact Or.inl rfl | exact Or.inr rfl))) (fun _ _ _ _ _ => pts_nil) (fun _ _ _ _ _ => (pi_range2 rfl F.range (pa_cons (pe_op op_addU (pv 1) pe_int) (pa_cons (pv 0) pa_nil)))) (fun _ _ _ _ _ => (pg_name (i := 2) sc_pairs_of.nd rfl (by first | exact Or.inl rfl | exact Or.inr rfl))) (fun _ _ _ _ _ => pts_nil) (fun _ _ _ _ _ => (pe_tup (pa_cons (pv 1) (pa_cons (pv 2) pa_nil)))))))
def l_pairs_of : Nat := 3
abbrev N_classes : List Str := ["chain", "found", "doubts", "pair"]
abbrev P_classes : List Str := ["chain"]
theorem sc_classes : FnScope N_classes P_classes (defScope s_classes) := ⟨rfl, rfl, rfl, by decide +kernel, rfl, by decide +kernel, by decide +kernel⟩
def t_classes (X : Cx) (C CC aSCOPES aTICK : Addr) (sp_check_chain sp_listed sp_pairs_of sp_parting_of sp_Classes_init : Sp) : TS := (tSeq (tDrop (tCall sp_check_chain [] C8.E0 (tCons (tVar 0) tNil)))
  (tSeq (tAsg (tCall sp_listed [] C8.E0 (tCons (tVar 0) tNil)) (gName 1))
  (tSeq (tAsg (tDcX (gs X C) (iList X.K (tCall sp_pairs_of [] C8.E0 (tCons (tCB (rLenU (gs X C)) (tCons (tVar 1) tNil)) tNil))) (gName 3) tYes (tVar 3) (tCall sp_parting_of [] C8.E0 (tCons (tVar 0) (tCons (tOp (rIxU (gs X C)) (tOp (rIxU (gs X C)) (tVar 1) (tOp (rIxU (gs X C)) (tVar 3) (tC (.int 0)))) (tC (.int 0))) (tCons (tOp (rIxU (gs X C)) (tOp (rIxU (gs X C)) (tVar 1) (tOp (rIxU (gs X C)) (tVar 3) (tC (.int 1)))) (tC (.int 0))) tNil)))) [3]) (gName 2))
  (tRet (tMake CC sp_Classes_init [] C8.E0 (tCons (tVar 1) (tCons (tVar 2) tNil)))))))
theorem w_classes {P : Program} {w : World} {K : PySem.W.Frag} {mg : Str → Option Value} {base : Heap} {C CC aSCOPES aTICK f : Addr} {cdv : Value} {A : Around} {outer : List Env} {s : Shared} {H : Hp} {E : XK} {sp_check_chain sp_listed sp_pairs_of sp_parting_of sp_Classes_init : Sp} (F : Ft P w K mg base C CC aSCOPES aTICK) (hr : Room 11 (XX P w K mg base d_classes N_classes f cdv A outer s H E).A) (c_check_chain : C8.Cal P w K mg base 3 "check_chain" sp_check_chain []) (c_listed : C8.Cal P w K mg base 11 "listed" sp_listed []) (c_pairs_of : C8.Cal P w K mg base 3 "pairs_of" sp_pairs_of []) (c_parting_of : C8.Cal P w K mg base 8 "parting_of" sp_parting_of []) (c_Classes_init : C8.Mak P w K mg base 3 "Classes" CC sp_Classes_init []) :
    PSs (XX P w K mg base d_classes N_classes f cdv A outer s H E) (defBody s_classes) (t_classes (XX P w K mg base d_classes N_classes f cdv A outer s H E) C CC aSCOPES aTICK sp_check_chain sp_listed sp_pairs_of sp_parting_of sp_Classes_init) :=
  (pss_cons (ps_expr (C8.pe_c c_check_chain hr (by decide) rfl (pa_cons (pv 0) pa_nil)))
  (pss_cons (ps_set (i := 1) sc_classes.nd rfl (by first | exact Or.inl rfl | exact Or.inr rfl) (C8.pe_c c_listed hr (by decide) rfl (pa_cons (pv 0) pa_nil)))
  (pss_cons (ps_setDcx (i := 2) (C := C) (own := [("pair", 3)]) hr.units rfl sc_classes.nd rfl rfl (sw_trueD rfl rfl rfl (by decide +kernel)) (pi_list (C8.pe_c c_pairs_of hr (by decide) rfl (pa_cons (pe_callB call_lenU rfl F.len boot_len (pa_cons (pv 1) pa_nil)) pa_nil))) (blkOk_by (N := N_classes) (sc := defScope s_classes) (by decide +kernel)) ⟨fun _ _ _ _ _ => (pg_name (i := 3) sc_classes.nd rfl (by first | exact Or.inl rfl | exact Or.inr rfl)), fun _ _ _ _ _ => pts_nil, fun _ _ _ _ _ => (pv 3), fun _ _ _ _ _ => (C8.pe_c c_parting_of hr (by decide) rfl (pa_cons (pv 0) (pa_cons (pe_ix (ix_U hr.units) (pe_ix (ix_U hr.units) (pv 1) (pe_ix (ix_U hr.units) (pv 3) pe_int (fun _ _ => rfl)) (fun _ _ => rfl)) pe_int (fun _ _ => rfl)) (pa_cons (pe_ix (ix_U hr.units) (pe_ix (ix_U hr.units) (pv 1) (pe_ix (ix_U hr.units) (pv 3) pe_int (fun _ _ => rfl)) (fun _ _ => rfl)) pe_int (fun _ _ => rfl)) pa_nil))))⟩)
  (pss_one (ps_ret (C8.pe_mk c_Classes_init hr (by decide) rfl (pa_cons (pv 1) (pa_cons (pv 2) pa_nil))))))))
def l_classes : Nat := 12
abbrev N_Chain_init : List Str := ["self", "links", "callers", "charges", "one"]
abbrev P_Chain_init : List Str := ["self", "links", "callers", "charges"]
theorem sc_Chain_init : FnScope N_Chain_init P_Chain_init (defScope s_Chain_init) := ⟨rfl, rfl, rfl, by decide +kernel, rfl, by decide +kernel, by decide +kernel⟩
def t_Chain_init (X : Cx) (C CC aSCOPES aTICK : Addr) (sp_is_link sp_is_integer : Sp) : TS := (tSeq (tIfS (tOr (tNot (tB (tCB (rIsiU (gs X C)) (tCons (tVar 1) (tCons (tC (.ty "tuple")) tNil))))) (tOr (tNot (tTest (tChain (rI0 fun i j => .bl (decide (i ≤ j))) (rI0 fun i j => .bl (decide (i ≤ j))) (tC (.int 1)) (tCB (rLenU (gs X C)) (tCons (tVar 1) tNil)) (tC (.int 3))))) (tNot (tB (tCB (rAll X.K) (tCons (tLc (iTup X.K (tVar 1)) (gName 4) tYes (tCall sp_is_link [] C8.E0 (tCons (tVar 4) tNil)) [4]) tNil))))))
  tNever
  tNext)
  (tSeq (tIfS (tNot (tB (tCall sp_is_integer [] C8.E0 (tCons (tVar 2) (tCons (tC (.int 1)) (tCons (tC (.int 2)) tNil))))))
  tNever
  tNext)
  (tSeq (tIfS (tNot (tB (tCB (rIsiU (gs X C)) (tCons (tVar 3) (tCons (tC (.ty "bool")) tNil)))))
  tNever
  tNext)
  (tSeq (sFld X.K (tVar 0) (tVar 1) "rows")
  (tSeq (sFld X.K (tVar 0) (tVar 2) "folk")
  (sFld X.K (tVar 0) (tVar 3) "costly"))))))
theorem w_Chain_init {P : Program} {w : World} {K : PySem.W.Frag} {mg : Str → Option Value} {base : Heap} {C CC aSCOPES aTICK f : Addr} {cdv : Value} {A : Around} {outer : List Env} {s : Shared} {H : Hp} {E : XK} {sp_is_link sp_is_integer : Sp} (F : Ft P w K mg base C CC aSCOPES aTICK) (hr : Room 5 (XX P w K mg base d_Chain_init N_Chain_init f cdv A outer s H E).A) (c_is_link : C8.Cal P w K mg base 5 "is_link" sp_is_link []) (c_is_integer : C8.Cal P w K mg base 3 "is_integer" sp_is_integer []) :
    PSs (XX P w K mg base d_Chain_init N_Chain_init f cdv A outer s H E) (defBody s_Chain_init) (t_Chain_init (XX P w K mg base d_Chain_init N_Chain_init f cdv A outer s H E) C CC aSCOPES aTICK sp_is_link sp_is_integer) :=
  (pss_cons (ps_if (PW.pt (pw_or (pt_not (pt_val (pe_callB (call_isiU F.insC) rfl F.isinstance boot_isinstance (pa_cons (pv 1) (pa_cons (pe_bltn rfl F.tuple boot_tuple rfl) pa_nil))))) (pw_or (pt_not (pt_chain op_le op_le pe_int (pe_callB call_lenU rfl F.len boot_len (pa_cons (pv 1) pa_nil)) (C8.pe_gc rfl F.MAX_LINKS))) (pw_or1 (pt_not (pt_val (pe_callB (cr_all rfl) rfl F.all boot_all (pa_cons (pe_lc (own := [("one", 4)]) rfl sc_Chain_init.nd (pi_tup (pv 1)) (blkOk_by (N := N_Chain_init) (sc := defScope s_Chain_init) (by decide +kernel)) (fun _ _ _ _ _ => (pg_name (i := 4) sc_Chain_init.nd rfl (by first | exact Or.inl rfl | exact Or.inr rfl))) (fun _ _ _ _ _ => pts_nil) (fun _ _ _ _ _ => (C8.pe_c c_is_link hr (by decide) rfl (pa_cons (pv 4) pa_nil)))) pa_nil))))))))
  (pss_one ps_never)
  pss_nil)
  (pss_cons (ps_if (pt_not (pt_val (C8.pe_c c_is_integer hr (by decide) rfl (pa_cons (pv 2) (pa_cons pe_int (pa_cons (C8.pe_gc rfl F.MAX_CALLERS) pa_nil))))))
  (pss_one ps_never)
  pss_nil)
  (pss_cons (ps_if (pt_not (pt_val (pe_callB (call_isiU F.insC) rfl F.isinstance boot_isinstance (pa_cons (pv 3) (pa_cons (pe_bltn rfl F.bool boot_bool rfl) pa_nil)))))
  (pss_one ps_never)
  pss_nil)
  (pss_cons (ps_fld (pv 0) (pv 1) rfl)
  (pss_cons (ps_fld (pv 0) (pv 2) rfl)
  (pss_one (ps_fld (pv 0) (pv 3) rfl)))))))
def l_Chain_init : Nat := 6
abbrev N_Classes_init : List Str := ["self", "classes", "doubts", "some", "pair", "history"]
abbrev P_Classes_init : List Str := ["self", "classes", "doubts"]
theorem sc_Classes_init : FnScope N_Classes_init P_Classes_init (defScope s_Classes_init) := ⟨rfl, rfl, rfl, by decide +kernel, rfl, by decide +kernel, by decide +kernel⟩
def t_Classes_init (X : Cx) (C CC aSCOPES aTICK : Addr) : TS := (tSeq (sFld X.K (tVar 0) (tLc (iList X.K (tVar 1)) (gName 3) tYes (tCB (rLstU (gs X C)) (tCons (tVar 3) tNil)) [3]) "classes")
  (sFld X.K (tVar 0) (tDcX (gs X C) (iDP (tVar 2)) (gTup X.K 2 (gCons (gName 4) (gCons (gName 5) gNil))) tYes (tVar 4) (tVar 5) [4, 5]) "doubts"))
theorem w_Classes_init {P : Program} {w : World} {K : PySem.W.Frag} {mg : Str → Option Value} {base : Heap} {C CC aSCOPES aTICK f : Addr} {cdv : Value} {A : Around} {outer : List Env} {s : Shared} {H : Hp} {E : XK} (F : Ft P w K mg base C CC aSCOPES aTICK) (hr : Room 2 (XX P w K mg base d_Classes_init N_Classes_init f cdv A outer s H E).A) :
    PSs (XX P w K mg base d_Classes_init N_Classes_init f cdv A outer s H E) (defBody s_Classes_init) (t_Classes_init (XX P w K mg base d_Classes_init N_Classes_init f cdv A outer s H E) C CC aSCOPES aTICK ) :=
  (pss_cons (ps_fld (pv 0) (pe_lc (own := [("some", 3)]) rfl sc_Classes_init.nd (pi_list (pv 1)) (blkOk_by (N := N_Classes_init) (sc := defScope s_Classes_init) (by decide +kernel)) (fun _ _ _ _ _ => (pg_name (i := 3) sc_Classes_init.nd rfl (by first | exact Or.inl rfl | exact Or.inr rfl))) (fun _ _ _ _ _ => pts_nil) (fun _ _ _ _ _ => (pe_callTy (call_lstU rfl) rfl F.list boot_list (pa_cons (pv 3) pa_nil)))) rfl)
  (pss_one (ps_fld (pv 0) (pe_dcx (C := C) (own := [("pair", 4), ("history", 5)]) hr.units rfl sc_Classes_init.nd (pi_dp (pv 2)) (blkOk_by (N := N_Classes_init) (sc := defScope s_Classes_init) (by decide +kernel)) ⟨fun _ _ _ _ _ => (pg_tup rfl (pgs_cons (pg_name (i := 4) sc_Classes_init.nd rfl (by first | exact Or.inl rfl | exact Or.inr rfl)) (pgs_cons (pg_name (i := 5) sc_Classes_init.nd rfl (by first | exact Or.inl rfl | exact Or.inr rfl)) pgs_nil))), fun _ _ _ _ _ => pts_nil, fun _ _ _ _ _ => (pv 4), fun _ _ _ _ _ => (pv 5)⟩) rfl)))
def l_Classes_init : Nat := 3
abbrev N_Classes_shows : List Str := ["self", "chain", "due", "one", "other", "pair"]
abbrev P_Classes_shows : List Str := ["self", "chain"]
theorem sc_Classes_shows : FnScope N_Classes_shows P_Classes_shows (defScope s_Classes_shows) := ⟨rfl, rfl, rfl, by decide +kernel, rfl, by decide +kernel, by decide +kernel⟩
def t_Classes_shows (X : Cx) (C CC aSCOPES aTICK : Addr) (sp_check_chain sp_listed sp_pairs_of sp_does_part : Sp) : TS := (tSeq (tDrop (tCall sp_check_chain [] C8.E0 (tCons (tVar 1) tNil)))
  (tSeq (tIfS (tTest (tOp (rNeU (gs X C)) (tFld X.K (tVar 0) "classes") (tCall sp_listed [] C8.E0 (tCons (tVar 1) tNil))))
  (tRet (tC (.bl false)))
  tNext)
  (tSeq (tAsg (tCall sp_pairs_of [] C8.E0 (tCons (tCB (rLenU (gs X C)) (tCons (tFld X.K (tVar 0) "classes") tNil)) tNil)) (gName 2))
  (tSeq (tIfS (tOr (tTest (tOp (rNeU (gs X C)) (tCB (rLenU (gs X C)) (tCons (tVar 2) tNil)) (tCB (rLenU (gs X C)) (tCons (tFld X.K (tVar 0) "doubts") tNil)))) (tNot (tB (tCB (rAll X.K) (tCons (tLc (iList X.K (tVar 2)) (gName 5) tYes (tOp (rInU (gs X C)) (tVar 5) (tFld X.K (tVar 0) "doubts")) [5]) tNil)))))
  (tRet (tC (.bl false)))
  tNext)
  (tSeq (tFor (iList X.K (tVar 2)) (gTup X.K 2 (gCons (gName 3) (gCons (gName 4) gNil)))
  (tIfS (tNot (tB (tCall sp_does_part [] C8.E0 (tCons (tVar 1) (tCons (tOp (rIxU (gs X C)) (tOp (rIxU (gs X C)) (tFld X.K (tVar 0) "classes") (tVar 3)) (tC (.int 0))) (tCons (tOp (rIxU (gs X C)) (tOp (rIxU (gs X C)) (tFld X.K (tVar 0) "classes") (tVar 4)) (tC (.int 0))) (tCons (tOp (rIxU (gs X C)) (tFld X.K (tVar 0) "doubts") (tTup (tCons (tVar 3) (tCons (tVar 4) tNil)))) tNil)))))))
  (tRet (tC (.bl false)))
  tNext))
  (tRet (tC (.bl true))))))))
theorem w_Classes_shows {P : Program} {w : World} {K : PySem.W.Frag} {mg : Str → Option Value} {base : Heap} {C CC aSCOPES aTICK f : Addr} {cdv : Value} {A : Around} {outer : List Env} {s : Shared} {H : Hp} {E : XK} {sp_check_chain sp_listed sp_pairs_of sp_does_part : Sp} (F : Ft P w K mg base C CC aSCOPES aTICK) (hr : Room 11 (XX P w K mg base d_Classes_shows N_Classes_shows f cdv A outer s H E).A) (c_check_chain : C8.Cal P w K mg base 3 "check_chain" sp_check_chain []) (c_listed : C8.Cal P w K mg base 11 "listed" sp_listed []) (c_pairs_of : C8.Cal P w K mg base 3 "pairs_of" sp_pairs_of []) (c_does_part : C8.Cal P w K mg base 8 "does_part" sp_does_part []) :
    PSs (XX P w K mg base d_Classes_shows N_Classes_shows f cdv A outer s H E) (defBody s_Classes_shows) (t_Classes_shows (XX P w K mg base d_Classes_shows N_Classes_shows f cdv A outer s H E) C CC aSCOPES aTICK sp_check_chain sp_listed sp_pairs_of sp_does_part) :=
  (pss_cons (ps_expr (C8.pe_c c_check_chain hr (by decide) rfl (pa_cons (pv 1) pa_nil)))
  (pss_cons (ps_if (pt_cmpR (op_neU hr.units) (pe_fld (pv 0) rfl) (C8.pe_c c_listed hr (by decide) rfl (pa_cons (pv 1) pa_nil)) (nomark _))
  (pss_one (ps_ret pe_bl))
  pss_nil)
  (pss_cons (ps_set (i := 2) sc_Classes_shows.nd rfl (by first | exact Or.inl rfl | exact Or.inr rfl) (C8.pe_c c_pairs_of hr (by decide) rfl (pa_cons (pe_callB call_lenU rfl F.len boot_len (pa_cons (pe_fld (pv 0) rfl) pa_nil)) pa_nil)))
  (pss_cons (ps_if (PW.pt (pw_or (pt_cmpR (op_neU hr.units) (pe_callB call_lenU rfl F.len boot_len (pa_cons (pv 2) pa_nil)) (pe_callB call_lenU rfl F.len boot_len (pa_cons (pe_fld (pv 0) rfl) pa_nil)) (nomark _)) (pw_or1 (pt_not (pt_val (pe_callB (cr_all rfl) rfl F.all boot_all (pa_cons (pe_lc (own := [("pair", 5)]) rfl sc_Classes_shows.nd (pi_list (pv 2)) (blkOk_by (N := N_Classes_shows) (sc := defScope s_Classes_shows) (by decide +kernel)) (fun _ _ _ _ _ => (pg_name (i := 5) sc_Classes_shows.nd rfl (by first | exact Or.inl rfl | exact Or.inr rfl))) (fun _ _ _ _ _ => pts_nil) (fun _ _ _ _ _ => (pe_cmpR (op_inU (Room_u65 hr)) (pv 5) (pe_fld (pv 0) rfl) rfl))) pa_nil)))))))
  (pss_one (ps_ret pe_bl))
  pss_nil)
  (pss_cons (ps_for PassesOwn.never rfl (pi_list (pv 2)) (pg_tup rfl (pgs_cons (pg_name (i := 3) sc_Classes_shows.nd rfl (by first | exact Or.inl rfl | exact Or.inr rfl)) (pgs_cons (pg_name (i := 4) sc_Classes_shows.nd rfl (by first | exact Or.inl rfl | exact Or.inr rfl)) pgs_nil)))
  (pss_one (ps_if (pt_not (pt_val (C8.pe_c c_does_part hr (by decide) rfl (pa_cons (pv 1) (pa_cons (pe_ix (ix_U hr.units) (pe_ix (ix_U hr.units) (pe_fld (pv 0) rfl) (pv 3) (fun _ _ => rfl)) pe_int (fun _ _ => rfl)) (pa_cons (pe_ix (ix_U hr.units) (pe_ix (ix_U hr.units) (pe_fld (pv 0) rfl) (pv 4) (fun _ _ => rfl)) pe_int (fun _ _ => rfl)) (pa_cons (pe_ix (ix_U hr.units) (pe_fld (pv 0) rfl) (pe_tup (pa_cons (pv 3) (pa_cons (pv 4) pa_nil))) (fun _ _ => rfl)) pa_nil)))))))
  (pss_one (ps_ret pe_bl))
  pss_nil)))
  (pss_one (ps_ret pe_bl)))))))
def l_Classes_shows : Nat := 12
end K3

set_option Elab.async false
set_option linter.all false
set_option maxRecDepth 100000
set_option maxHeartbeats 4000000
/-! Walks (printed by gen_walk.py). -/
namespace K3
open PySem PySem.Spec PyProof.Rows L2 He

abbrev N_Lcell_at : List Str := ["_law_script", "_law_k"]
abbrev P_Lcell_at : List Str := ["_law_script", "_law_k"]
theorem sc_Lcell_at : FnScope N_Lcell_at P_Lcell_at (defScope s_Lcell_at) := ⟨rfl, rfl, rfl, by decide +kernel, rfl, by decide +kernel, by decide +kernel⟩
def t_Lcell_at (X : Cx) (C CC aSCOPES aTICK : Addr) : TS := (tSeq (tIfS (tTest (tOp (rI0 fun i j => .bl (decide (i < j))) (tVar 1) (tCB (rLenU (gs X C)) (tCons (tVar 0) tNil))))
  (tRet (tOp (rIxU (gs X C)) (tVar 0) (tVar 1)))
  tNext)
  (tRet (tC (.int 0))))
theorem w_Lcell_at {P : Program} {w : World} {K : PySem.W.Frag} {mg : Str → Option Value} {base : Heap} {C CC aSCOPES aTICK f : Addr} {cdv : Value} {A : Around} {outer : List Env} {s : Shared} {H : Hp} {E : XK} (F : Ft P w K mg base C CC aSCOPES aTICK) (hr : Room 2 (XX P w K mg base d_Lcell_at N_Lcell_at f cdv A outer s H E).A) :
    PSs (XX P w K mg base d_Lcell_at N_Lcell_at f cdv A outer s H E) (defBody s_Lcell_at) (t_Lcell_at (XX P w K mg base d_Lcell_at N_Lcell_at f cdv A outer s H E) C CC aSCOPES aTICK ) :=
  (pss_cons (ps_if (pt_cmpR op_lt (pv 1) (pe_callB call_lenU rfl F.len boot_len (pa_cons (pv 0) pa_nil)) (nomark _))
  (pss_one (ps_ret (pe_ix (ix_U hr.units) (pv 0) (pv 1) (fun _ _ => rfl))))
  pss_nil)
  (pss_one (ps_ret pe_int)))
def l_Lcell_at : Nat := 3
abbrev N_Ldraw : List Str := ["_law_cell", "_law_k", "_law_bound", "_law_primes"]
abbrev P_Ldraw : List Str := ["_law_cell", "_law_k", "_law_bound"]
theorem sc_Ldraw : FnScope N_Ldraw P_Ldraw (defScope s_Ldraw) := ⟨rfl, rfl, rfl, by decide +kernel, rfl, by decide +kernel, by decide +kernel⟩
def t_Ldraw (X : Cx) (C CC aSCOPES aTICK : Addr) : TS := (tSeq (tAsg (tTup (tCons (tC (.int 1000003)) (tCons (tC (.int 1000033)) (tCons (tC (.int 1000037)) (tCons (tC (.int 1000039)) (tCons (tC (.int 1000081)) (tCons (tC (.int 1000099)) (tCons (tC (.int 1000117)) (tCons (tC (.int 1000121)) (tCons (tC (.int 1000133)) (tCons (tC (.int 1000151)) (tCons (tC (.int 1000159)) (tCons (tC (.int 1000171)) (tCons (tC (.int 1000183)) (tCons (tC (.int 1000187)) (tCons (tC (.int 1000193)) (tCons (tC (.int 1000199)) tNil))))))))))))))))) (gName 3))
  (tRet (tOp (rI (fun _ j => 0 < j) fun i j => .int (i % j)) (tOp (rI (fun _ j => 0 < j) fun i j => .int (i % j)) (tCB rIntU (tCons (tOp (rAddU (gs X C)) (tOp (rMulU (gs X C)) (tVar 0) (tC (.int 48271))) (tOp (rMulU (gs X C)) (tVar 1) (tC (.int 69621)))) tNil)) (tOp (rIxU (gs X C)) (tVar 3) (tOp (rI (fun _ j => 0 < j) fun i j => .int (i % j)) (tCB rIntU (tCons (tVar 1) tNil)) (tC (.int 16))))) (tVar 2))))
theorem w_Ldraw {P : Program} {w : World} {K : PySem.W.Frag} {mg : Str → Option Value} {base : Heap} {C CC aSCOPES aTICK f : Addr} {cdv : Value} {A : Around} {outer : List Env} {s : Shared} {H : Hp} {E : XK} (F : Ft P w K mg base C CC aSCOPES aTICK) (hr : Room 2 (XX P w K mg base d_Ldraw N_Ldraw f cdv A outer s H E).A) :
    PSs (XX P w K mg base d_Ldraw N_Ldraw f cdv A outer s H E) (defBody s_Ldraw) (t_Ldraw (XX P w K mg base d_Ldraw N_Ldraw f cdv A outer s H E) C CC aSCOPES aTICK ) :=
  (pss_cons (ps_set (i := 3) sc_Ldraw.nd rfl (by first | exact Or.inl rfl | exact Or.inr rfl) (pe_tup (pa_cons pe_int (pa_cons pe_int (pa_cons pe_int (pa_cons pe_int (pa_cons pe_int (pa_cons pe_int (pa_cons pe_int (pa_cons pe_int (pa_cons pe_int (pa_cons pe_int (pa_cons pe_int (pa_cons pe_int (pa_cons pe_int (pa_cons pe_int (pa_cons pe_int (pa_cons pe_int pa_nil))))))))))))))))))
  (pss_one (ps_ret (pe_op op_mod (pe_op op_mod (pe_callTy call_int1 rfl F.int boot_int (pa_cons (pe_op op_addU (pe_op op_mulU (pv 0) pe_int) (pe_op op_mulU (pv 1) pe_int)) pa_nil)) (pe_ix (ix_U hr.units) (pv 3) (pe_op op_mod (pe_callTy call_int1 rfl F.int boot_int (pa_cons (pv 1) pa_nil)) pe_int) (fun _ _ => rfl))) (pv 2)))))
def l_Ldraw : Nat := 3
abbrev N_Lnumber : List Str := ["_law_cell", "_law_k", "_law_bound", "_law_power", "_law_times", "_law_remains", "_law_small"]
abbrev P_Lnumber : List Str := ["_law_cell", "_law_k", "_law_bound"]
theorem sc_Lnumber : FnScope N_Lnumber P_Lnumber (defScope s_Lnumber) := ⟨rfl, rfl, rfl, by decide +kernel, rfl, by decide +kernel, by decide +kernel⟩
def t_Lnumber (X : Cx) (C CC aSCOPES aTICK : Addr) (sp_Ldraw : Sp) : TS := (tSeq (tAsg (tC (.int 1)) (gName 3))
  (tSeq (tFor (iRng1 (tCons (tOp (rI (fun _ j => 0 < j) fun i j => .int (i % j)) (tCB rIntU (tCons (tVar 1) tNil)) (tC (.int 24))) tNil)) (gName 4)
  (tAsg (tOp (rMulU (gs X C)) (tVar 3) (tC (.int 1009))) (gName 3)))
  (tSeq (tAsg (tOp (rI CDivW fun i j => .int (i / j)) (tOp (rI0 fun i j => .int (i - j)) (tVar 0) (tOp (rI CPow fun i j => .int (i ^ j.toNat)) (tC (.int 10)) (tC (.int 18)))) (tVar 3)) (gName 5))
  (tSeq (tIfS (tTest (tOp (rI0 fun i j => .bl (decide (j < i))) (tVar 5) (tC (.int 0))))
  (tRet (tOp (rI (fun _ j => 0 < j) fun i j => .int (i % j)) (tOp (rI (fun _ j => 0 < j) fun i j => .int (i % j)) (tCB rIntU (tCons (tVar 5) tNil)) (tC (.int 1009))) (tVar 2)))
  tNext)
  (tSeq (tAsg (tOp (rI (fun _ j => 0 < j) fun i j => .int (i % j)) (tCB rIntU (tCons (tVar 0) tNil)) (tC (.int 1000003))) (gName 6))
  (tRet (tOp (rI (fun _ j => 0 < j) fun i j => .int (i % j)) (tCall sp_Ldraw [] C8.E0 (tCons (tOp (rMulU (gs X C)) (tOp (rAddU (gs X C)) (tVar 6) (tOp (rMulU (gs X C)) (tC (.int 977)) (tVar 1))) (tOp (rAddU (gs X C)) (tOp (rAddU (gs X C)) (tVar 6) (tOp (rMulU (gs X C)) (tC (.int 31)) (tVar 1))) (tC (.int 5)))) (tCons (tOp (rAddU (gs X C)) (tOp (rI (fun _ j => 0 < j) fun i j => .int (i % j)) (tCB rIntU (tCons (tVar 1) tNil)) (tC (.int 9))) (tC (.int 1))) (tCons (tC (.int 999983)) tNil)))) (tVar 2))))))))
theorem w_Lnumber {P : Program} {w : World} {K : PySem.W.Frag} {mg : Str → Option Value} {base : Heap} {C CC aSCOPES aTICK f : Addr} {cdv : Value} {A : Around} {outer : List Env} {s : Shared} {H : Hp} {E : XK} {sp_Ldraw : Sp} (F : Ft P w K mg base C CC aSCOPES aTICK) (hr : Room 3 (XX P w K mg base d_Lnumber N_Lnumber f cdv A outer s H E).A) (c_Ldraw : C8.Cal P w K mg base 3 "_law_draw" sp_Ldraw []) :
    PSs (XX P w K mg base d_Lnumber N_Lnumber f cdv A outer s H E) (defBody s_Lnumber) (t_Lnumber (XX P w K mg base d_Lnumber N_Lnumber f cdv A outer s H E) C CC aSCOPES aTICK sp_Ldraw) :=
  (pss_cons (ps_set (i := 3) sc_Lnumber.nd rfl (by first | exact Or.inl rfl | exact Or.inr rfl) pe_int)
  (pss_cons (ps_for PassesOwn.never rfl (pi_range1 rfl F.range (pa_cons (pe_op op_mod (pe_callTy call_int1 rfl F.int boot_int (pa_cons (pv 1) pa_nil)) pe_int) pa_nil)) (pg_name (i := 4) sc_Lnumber.nd rfl (by first | exact Or.inl rfl | exact Or.inr rfl))
  (pss_one (ps_set (i := 3) sc_Lnumber.nd rfl (by first | exact Or.inl rfl | exact Or.inr rfl) (pe_op op_mulU (pv 3) pe_int))))
  (pss_cons (ps_set (i := 5) sc_Lnumber.nd rfl (by first | exact Or.inl rfl | exact Or.inr rfl) (pe_op op_fdivW (pe_op op_sub (pv 0) (pe_op op_pow pe_int pe_int)) (pv 3)))
  (pss_cons (ps_if (pt_cmpR op_gt (pv 5) pe_int (nomark _))
  (pss_one (ps_ret (pe_op op_mod (pe_op op_mod (pe_callTy call_int1 rfl F.int boot_int (pa_cons (pv 5) pa_nil)) pe_int) (pv 2))))
  pss_nil)
  (pss_cons (ps_set (i := 6) sc_Lnumber.nd rfl (by first | exact Or.inl rfl | exact Or.inr rfl) (pe_op op_mod (pe_callTy call_int1 rfl F.int boot_int (pa_cons (pv 0) pa_nil)) pe_int))
  (pss_one (ps_ret (pe_op op_mod (C8.pe_c c_Ldraw hr (by decide) rfl (pa_cons (pe_op op_mulU (pe_op op_addU (pv 6) (pe_op op_mulU pe_int (pv 1))) (pe_op op_addU (pe_op op_addU (pv 6) (pe_op op_mulU pe_int (pv 1))) pe_int)) (pa_cons (pe_op op_addU (pe_op op_mod (pe_callTy call_int1 rfl F.int boot_int (pa_cons (pv 1) pa_nil)) pe_int) pe_int) (pa_cons pe_int pa_nil)))) (pv 2)))))))))
def l_Lnumber : Nat := 4
abbrev N_Lnext : List Str := ["_law_draw_here", "_law_bound", "_law_at", "_law_cell"]
abbrev P_Lnext : List Str := ["_law_draw_here", "_law_bound"]
theorem sc_Lnext : FnScope N_Lnext P_Lnext (defScope s_Lnext) := ⟨rfl, rfl, rfl, by decide +kernel, rfl, by decide +kernel, by decide +kernel⟩
def t_Lnext (X : Cx) (C CC aSCOPES aTICK : Addr) (sp_Lcell_at sp_Lnumber : Sp) : TS := (tSeq (tAsg (tOp (rAddU (gs X C)) (tOp (rIxU (gs X C)) (tVar 0) (tC (.int 2))) (tC (.int 1))) (gSub (tVar 0) (tC (.int 2)) rSetL))
  (tSeq (tAsg (tOp (rI CDivW fun i j => .int (i / j)) (tOp (rIxU (gs X C)) (tVar 0) (tC (.int 2))) (tC (.int 12))) (gName 2))
  (tSeq (tAsg (tOp (rAddU (gs X C)) (tCall sp_Lcell_at [] C8.E0 (tCons (tOp (rIxU (gs X C)) (tVar 0) (tC (.int 0))) (tCons (tOp (rAddU (gs X C)) (tOp (rIxU (gs X C)) (tVar 0) (tC (.int 1))) (tVar 2)) tNil))) (tOp (rMulU (gs X C)) (tC (.int 31)) (tVar 2))) (gName 3))
  (tRet (tCall sp_Lnumber [] C8.E0 (tCons (tVar 3) (tCons (tOp (rAddU (gs X C)) (tOp (rI (fun _ j => 0 < j) fun i j => .int (i % j)) (tCB rIntU (tCons (tOp (rIxU (gs X C)) (tVar 0) (tC (.int 2))) tNil)) (tC (.int 12))) (tC (.int 1))) (tCons (tVar 1) tNil))))))))
theorem w_Lnext {P : Program} {w : World} {K : PySem.W.Frag} {mg : Str → Option Value} {base : Heap} {C CC aSCOPES aTICK f : Addr} {cdv : Value} {A : Around} {outer : List Env} {s : Shared} {H : Hp} {E : XK} {sp_Lcell_at sp_Lnumber : Sp} (F : Ft P w K mg base C CC aSCOPES aTICK) (hr : Room 4 (XX P w K mg base d_Lnext N_Lnext f cdv A outer s H E).A) (c_Lcell_at : C8.Cal P w K mg base 3 "_law_cell_at" sp_Lcell_at []) (c_Lnumber : C8.Cal P w K mg base 4 "_law_number" sp_Lnumber []) :
    PSs (XX P w K mg base d_Lnext N_Lnext f cdv A outer s H E) (defBody s_Lnext) (t_Lnext (XX P w K mg base d_Lnext N_Lnext f cdv A outer s H E) C CC aSCOPES aTICK sp_Lcell_at sp_Lnumber) :=
  (pss_cons (ps_asg (pe_op op_addU (pe_ix (ix_U hr.units) (pv 0) pe_int (fun _ _ => rfl)) pe_int) (pg_sub (pv 0) pe_int set_list))
  (pss_cons (ps_set (i := 2) sc_Lnext.nd rfl (by first | exact Or.inl rfl | exact Or.inr rfl) (pe_op op_fdivW (pe_ix (ix_U hr.units) (pv 0) pe_int (fun _ _ => rfl)) pe_int))
  (pss_cons (ps_set (i := 3) sc_Lnext.nd rfl (by first | exact Or.inl rfl | exact Or.inr rfl) (pe_op op_addU (C8.pe_c c_Lcell_at hr (by decide) rfl (pa_cons (pe_ix (ix_U hr.units) (pv 0) pe_int (fun _ _ => rfl)) (pa_cons (pe_op op_addU (pe_ix (ix_U hr.units) (pv 0) pe_int (fun _ _ => rfl)) (pv 2)) pa_nil))) (pe_op op_mulU pe_int (pv 2))))
  (pss_one (ps_ret (C8.pe_c c_Lnumber hr (by decide) rfl (pa_cons (pv 3) (pa_cons (pe_op op_addU (pe_op op_mod (pe_callTy call_int1 rfl F.int boot_int (pa_cons (pe_ix (ix_U hr.units) (pv 0) pe_int (fun _ _ => rfl)) pa_nil)) pe_int) pe_int) (pa_cons (pv 1) pa_nil)))))))))
def l_Lnext : Nat := 5
abbrev N_Lpick : List Str := ["_law_draw_here", "_law_things"]
abbrev P_Lpick : List Str := ["_law_draw_here", "_law_things"]
theorem sc_Lpick : FnScope N_Lpick P_Lpick (defScope s_Lpick) := ⟨rfl, rfl, rfl, by decide +kernel, rfl, by decide +kernel, by decide +kernel⟩
def t_Lpick (X : Cx) (C CC aSCOPES aTICK : Addr) (sp_Lnext : Sp) : TS := (tRet (tOp (rIxU (gs X C)) (tVar 1) (tCall sp_Lnext [] C8.E0 (tCons (tVar 0) (tCons (tCB (rLenU (gs X C)) (tCons (tVar 1) tNil)) tNil)))))
theorem w_Lpick {P : Program} {w : World} {K : PySem.W.Frag} {mg : Str → Option Value} {base : Heap} {C CC aSCOPES aTICK f : Addr} {cdv : Value} {A : Around} {outer : List Env} {s : Shared} {H : Hp} {E : XK} {sp_Lnext : Sp} (F : Ft P w K mg base C CC aSCOPES aTICK) (hr : Room 5 (XX P w K mg base d_Lpick N_Lpick f cdv A outer s H E).A) (c_Lnext : C8.Cal P w K mg base 5 "_law_next" sp_Lnext []) :
    PSs (XX P w K mg base d_Lpick N_Lpick f cdv A outer s H E) (defBody s_Lpick) (t_Lpick (XX P w K mg base d_Lpick N_Lpick f cdv A outer s H E) C CC aSCOPES aTICK sp_Lnext) :=
  (pss_one (ps_ret (pe_ix (ix_U hr.units) (pv 1) (C8.pe_c c_Lnext hr (by decide) rfl (pa_cons (pv 0) (pa_cons (pe_callB call_lenU rfl F.len boot_len (pa_cons (pv 1) pa_nil)) pa_nil))) (fun _ _ => rfl))))
def l_Lpick : Nat := 6
abbrev N_Llink : List Str := ["_law_draw_here", "_law_high", "_law_span", "_law_word", "_law_scope", "_law_number_here"]
abbrev P_Llink : List Str := ["_law_draw_here", "_law_high"]
theorem sc_Llink : FnScope N_Llink P_Llink (defScope s_Llink) := ⟨rfl, rfl, rfl, by decide +kernel, rfl, by decide +kernel, by decide +kernel⟩
def t_Llink (X : Cx) (C CC aSCOPES aTICK : Addr) (sp_Lnext sp_Lpick : Sp) : TS := (tSeq (tPar 4 5 (tCons (tCall sp_Lpick [] C8.E0 (tCons (tVar 0) (tCons (tLst (tCons (tC (.str "all")) (tCons (tC (.str "all")) (tCons (tC (.str "each")) tNil)))) tNil))) (tCons (tOp (rAddU (gs X C)) (tC (.int 1)) (tCall sp_Lnext [] C8.E0 (tCons (tVar 0) (tCons (tC (.int 2)) tNil)))) tNil)))
  (tSeq (tAsg (tOp (rAddU (gs X C)) (tC (.int 1)) (tCall sp_Lnext [] C8.E0 (tCons (tVar 0) (tCons (tVar 1) tNil)))) (gName 2))
  (tSeq (tAsg (tCall sp_Lpick [] C8.E0 (tCons (tVar 0) (tCons (tLst (tCons (tC (.str "bucket")) (tCons (tC (.str "window")) (tCons (tC (.str "slide")) (tCons (tC (.str "gap")) tNil))))) tNil))) (gName 3))
  (tRet (tTup (tCons (tVar 4) (tCons (tIf (tTest (tOp (rEqU (gs X C)) (tVar 3) (tC (.str "gap")))) (tTup (tCons (tVar 3) (tCons (tVar 2) tNil))) (tTup (tCons (tVar 3) (tCons (tVar 5) (tCons (tVar 2) tNil))))) tNil)))))))
theorem w_Llink {P : Program} {w : World} {K : PySem.W.Frag} {mg : Str → Option Value} {base : Heap} {C CC aSCOPES aTICK f : Addr} {cdv : Value} {A : Around} {outer : List Env} {s : Shared} {H : Hp} {E : XK} {sp_Lnext sp_Lpick : Sp} (F : Ft P w K mg base C CC aSCOPES aTICK) (hr : Room 6 (XX P w K mg base d_Llink N_Llink f cdv A outer s H E).A) (c_Lnext : C8.Cal P w K mg base 5 "_law_next" sp_Lnext []) (c_Lpick : C8.Cal P w K mg base 6 "_law_pick" sp_Lpick []) :
    PSs (XX P w K mg base d_Llink N_Llink f cdv A outer s H E) (defBody s_Llink) (t_Llink (XX P w K mg base d_Llink N_Llink f cdv A outer s H E) C CC aSCOPES aTICK sp_Lnext sp_Lpick) :=
  (pss_cons (ps_par (i := 4) (j := 5) rfl sc_Llink.nd rfl rfl (by decide) rfl rfl (pa_cons (C8.pe_c c_Lpick hr (by decide) rfl (pa_cons (pv 0) (pa_cons (pe_lst (pa_cons pe_str (pa_cons pe_str (pa_cons pe_str pa_nil)))) pa_nil))) (pa_cons (pe_op op_addU pe_int (C8.pe_c c_Lnext hr (by decide) rfl (pa_cons (pv 0) (pa_cons pe_int pa_nil)))) pa_nil)) rfl)
  (pss_cons (ps_set (i := 2) sc_Llink.nd rfl (by first | exact Or.inl rfl | exact Or.inr rfl) (pe_op op_addU pe_int (C8.pe_c c_Lnext hr (by decide) rfl (pa_cons (pv 0) (pa_cons (pv 1) pa_nil)))))
  (pss_cons (ps_set (i := 3) sc_Llink.nd rfl (by first | exact Or.inl rfl | exact Or.inr rfl) (C8.pe_c c_Lpick hr (by decide) rfl (pa_cons (pv 0) (pa_cons (pe_lst (pa_cons pe_str (pa_cons pe_str (pa_cons pe_str (pa_cons pe_str pa_nil))))) pa_nil))))
  (pss_one (ps_ret (pe_tup (pa_cons (pv 4) (pa_cons (pe_ifExp (pt_cmpR (op_eqU hr.units) (pv 3) pe_str (nomark _)) (pe_tup (pa_cons (pv 3) (pa_cons (pv 2) pa_nil))) (pe_tup (pa_cons (pv 3) (pa_cons (pv 5) (pa_cons (pv 2) pa_nil))))) pa_nil))))))))
def l_Llink : Nat := 7
abbrev N_Lchain : List Str := ["_law_draw_here", "_law_high", "_law_count", "_law_rows", "_law_turn"]
abbrev P_Lchain : List Str := ["_law_draw_here", "_law_high", "_law_count"]
theorem sc_Lchain : FnScope N_Lchain P_Lchain (defScope s_Lchain) := ⟨rfl, rfl, rfl, by decide +kernel, rfl, by decide +kernel, by decide +kernel⟩
def t_Lchain (X : Cx) (C CC aSCOPES aTICK : Addr) (sp_Lnext sp_Llink sp_Chain_init : Sp) : TS := (tSeq (tAsg (tCB (rTupU (gs X C)) (tCons (tLc (iRng1 (tCons (tOp (rAddU (gs X C)) (tC (.int 1)) (tCall sp_Lnext [] C8.E0 (tCons (tVar 0) (tCons (tC (.int 2)) tNil)))) tNil)) (gName 4) tYes (tCall sp_Llink [] C8.E0 (tCons (tVar 0) (tCons (tVar 1) tNil))) [4]) tNil)) (gName 3))
  (tRet (tMakeK C 1 2 sp_Chain_init (fun vs zs => vs ++ zs) C8.E0 (tCons (tVar 3) tNil) (tCons (tVar 2) (tCons (tOp (rEqU (gs X C)) (tCall sp_Lnext [] C8.E0 (tCons (tVar 0) (tCons (tC (.int 3)) tNil))) (tC (.int 0))) tNil)))))
theorem w_Lchain {P : Program} {w : World} {K : PySem.W.Frag} {mg : Str → Option Value} {base : Heap} {C CC aSCOPES aTICK f : Addr} {cdv : Value} {A : Around} {outer : List Env} {s : Shared} {H : Hp} {E : XK} {sp_Lnext sp_Llink sp_Chain_init : Sp} (F : Ft P w K mg base C CC aSCOPES aTICK) (hr : Room 7 (XX P w K mg base d_Lchain N_Lchain f cdv A outer s H E).A) (c_Lnext : C8.Cal P w K mg base 5 "_law_next" sp_Lnext []) (c_Llink : C8.Cal P w K mg base 7 "_law_link" sp_Llink []) (c_Chain_init : MakK P w K mg base 6 "Chain" C sp_Chain_init) :
    PSs (XX P w K mg base d_Lchain N_Lchain f cdv A outer s H E) (defBody s_Lchain) (t_Lchain (XX P w K mg base d_Lchain N_Lchain f cdv A outer s H E) C CC aSCOPES aTICK sp_Lnext sp_Llink sp_Chain_init) :=
  (pss_cons (ps_set (i := 3) sc_Lchain.nd rfl (by first | exact Or.inl rfl | exact Or.inr rfl) (pe_callTy call_tupU rfl F.tuple boot_tuple (pa_cons (pe_lc (own := [("_law_turn", 4)]) rfl sc_Lchain.nd (pi_range1 rfl F.range (pa_cons (pe_op op_addU pe_int (C8.pe_c c_Lnext hr (by decide) rfl (pa_cons (pv 0) (pa_cons pe_int pa_nil)))) pa_nil)) (blkOk_by (N := N_Lchain) (sc := defScope s_Lchain) (by decide +kernel)) (fun _ _ _ _ _ => (pg_name (i := 4) sc_Lchain.nd rfl (by first | exact Or.inl rfl | exact Or.inr rfl))) (fun _ _ _ _ _ => pts_nil) (fun _ _ _ _ _ => (C8.pe_c c_Llink hr (by decide) rfl (pa_cons (pv 0) (pa_cons (pv 1) pa_nil))))) pa_nil)))
  (pss_one (ps_ret (pe_mkK c_Chain_init hr (by decide) rfl (pa_cons (pv 3) pa_nil) (pk_cons (pv 2) (pk_cons (pe_cmpR (op_eqU hr.units) (C8.pe_c c_Lnext hr (by decide) rfl (pa_cons (pv 0) (pa_cons pe_int pa_nil))) pe_int (nomark _)) pk_nil))))))
def l_Lchain : Nat := 8
abbrev N_Levents : List Str := ["_law_chain_here", "_law_one"]
abbrev P_Levents : List Str := ["_law_chain_here"]
theorem sc_Levents : FnScope N_Levents P_Levents (defScope s_Levents) := ⟨rfl, rfl, rfl, by decide +kernel, rfl, by decide +kernel, by decide +kernel⟩
def t_Levents (X : Cx) (C CC aSCOPES aTICK : Addr) : TS := (tRet (tOp (rAddU (gs X C)) (tLst (tCons (tTup (tCons (tC (.str "tick")) tNil)) tNil)) (tLc (iRng1 (tCons (tProp C (getSp C "folk") [] C8.E0 (tVar 0)) tNil)) (gName 1) tYes (tTup (tCons (tC (.str "ask")) (tCons (tVar 1) tNil))) [1])))
theorem w_Levents {P : Program} {w : World} {K : PySem.W.Frag} {mg : Str → Option Value} {base : Heap} {C CC aSCOPES aTICK f : Addr} {cdv : Value} {A : Around} {outer : List Env} {s : Shared} {H : Hp} {E : XK} (F : Ft P w K mg base C CC aSCOPES aTICK) (hr : Room 2 (XX P w K mg base d_Levents N_Levents f cdv A outer s H E).A) :
    PSs (XX P w K mg base d_Levents N_Levents f cdv A outer s H E) (defBody s_Levents) (t_Levents (XX P w K mg base d_Levents N_Levents f cdv A outer s H E) C CC aSCOPES aTICK ) :=
  (pss_one (ps_ret (pe_op op_addU (pe_lst (pa_cons (pe_tup (pa_cons pe_str pa_nil)) pa_nil)) (pe_lc (own := [("_law_one", 1)]) rfl sc_Levents.nd (pi_range1 rfl F.range (pa_cons (pe_pr (pv 0) F.callers hr (by decide) rfl) pa_nil)) (blkOk_by (N := N_Levents) (sc := defScope s_Levents) (by decide +kernel)) (fun _ _ _ _ _ => (pg_name (i := 1) sc_Levents.nd rfl (by first | exact Or.inl rfl | exact Or.inr rfl))) (fun _ _ _ _ _ => pts_nil) (fun _ _ _ _ _ => (pe_tup (pa_cons pe_str (pa_cons (pv 1) pa_nil))))))))
def l_Levents : Nat := 3
abbrev N_Lnew : List Str := ["_law_part"]
abbrev P_Lnew : List Str := ["_law_part"]
theorem sc_Lnew : FnScope N_Lnew P_Lnew (defScope s_Lnew) := ⟨rfl, rfl, rfl, by decide +kernel, rfl, by decide +kernel, by decide +kernel⟩
def t_Lnew (X : Cx) (C CC aSCOPES aTICK : Addr) : TS := (tRet (tDGet (tCB (rDictP X.K) (tCons (tLst (tCons (tTup (tCons (tC (.str "bucket")) (tCons (tTup (tCons (tOp (rIxU (gs X C)) (tVar 0) (tC (.int 1))) (tCons (tC (.int 0)) tNil))) tNil))) (tCons (tTup (tCons (tC (.str "window")) (tCons (tTup (tCons (tC (.int 0)) (tCons (tC (.int 0)) tNil))) tNil))) (tCons (tTup (tCons (tC (.str "slide")) (tCons (tTup tNil) tNil))) (tCons (tTup (tCons (tC (.str "gap")) (tCons (tC (.int 0)) tNil))) tNil))))) tNil)) (tOp (rIxU (gs X C)) (tVar 0) (tC (.int 0)))))
theorem w_Lnew {P : Program} {w : World} {K : PySem.W.Frag} {mg : Str → Option Value} {base : Heap} {C CC aSCOPES aTICK f : Addr} {cdv : Value} {A : Around} {outer : List Env} {s : Shared} {H : Hp} {E : XK} (F : Ft P w K mg base C CC aSCOPES aTICK) (hr : Room 2 (XX P w K mg base d_Lnew N_Lnew f cdv A outer s H E).A) :
    PSs (XX P w K mg base d_Lnew N_Lnew f cdv A outer s H E) (defBody s_Lnew) (t_Lnew (XX P w K mg base d_Lnew N_Lnew f cdv A outer s H E) C CC aSCOPES aTICK ) :=
  (pss_one (ps_ret (pe_dget (hu_of hr) (pe_callTy (call_dictPU rfl) rfl F.dict boot_dict (pa_cons (pe_lst (pa_cons (pe_tup (pa_cons pe_str (pa_cons (pe_tup (pa_cons (pe_ix (ix_U hr.units) (pv 0) pe_int (fun _ _ => rfl)) (pa_cons pe_int pa_nil))) pa_nil))) (pa_cons (pe_tup (pa_cons pe_str (pa_cons (pe_tup (pa_cons pe_int (pa_cons pe_int pa_nil))) pa_nil))) (pa_cons (pe_tup (pa_cons pe_str (pa_cons (pe_tup pa_nil) pa_nil))) (pa_cons (pe_tup (pa_cons pe_str (pa_cons pe_int pa_nil))) pa_nil))))) pa_nil)) (pe_ix (ix_U hr.units) (pv 0) pe_int (fun _ _ => rfl)) (fun _ _ => rfl))))
def l_Lnew : Nat := 3
abbrev N_Lstart : List Str := ["_law_chain_here", "_law_found", "_law_scope", "_law_part", "_law_one"]
abbrev P_Lstart : List Str := ["_law_chain_here"]
theorem sc_Lstart : FnScope N_Lstart P_Lstart (defScope s_Lstart) := ⟨rfl, rfl, rfl, by decide +kernel, rfl, by decide +kernel, by decide +kernel⟩
def t_Lstart (X : Cx) (C CC aSCOPES aTICK : Addr) (sp_Lnew : Sp) : TS := (tSeq (tAsg (tLst tNil) (gName 1))
  (tSeq (tFor (iTup X.K (tProp C (getSp C "rows") [] C8.E0 (tVar 0))) (gTup X.K 2 (gCons (gName 2) (gCons (gName 3) gNil)))
  (tSeq (tAsg (tCall sp_Lnew [] C8.E0 (tCons (tVar 3) tNil)) (gName 4))
  (tDrop (tBM X.K "list" rAppend (tVar 1) (tCons (tIf (tTest (tOp (rEqU (gs X C)) (tVar 2) (tC (.str "all")))) (tVar 4) (tOp (rMulU (gs X C)) (tTup (tCons (tVar 4) tNil)) (tProp C (getSp C "folk") [] C8.E0 (tVar 0)))) tNil)))))
  (tRet (tCB (rTupU (gs X C)) (tCons (tVar 1) tNil)))))
theorem w_Lstart {P : Program} {w : World} {K : PySem.W.Frag} {mg : Str → Option Value} {base : Heap} {C CC aSCOPES aTICK f : Addr} {cdv : Value} {A : Around} {outer : List Env} {s : Shared} {H : Hp} {E : XK} {sp_Lnew : Sp} (F : Ft P w K mg base C CC aSCOPES aTICK) (hr : Room 3 (XX P w K mg base d_Lstart N_Lstart f cdv A outer s H E).A) (c_Lnew : C8.Cal P w K mg base 3 "_law_new" sp_Lnew []) :
    PSs (XX P w K mg base d_Lstart N_Lstart f cdv A outer s H E) (defBody s_Lstart) (t_Lstart (XX P w K mg base d_Lstart N_Lstart f cdv A outer s H E) C CC aSCOPES aTICK sp_Lnew) :=
  (pss_cons (ps_set (i := 1) sc_Lstart.nd rfl (by first | exact Or.inl rfl | exact Or.inr rfl) (pe_lst pa_nil))
  (pss_cons (ps_for PassesOwn.never rfl (pi_tup (pe_pr (pv 0) F.links hr (by decide) rfl)) (pg_tup rfl (pgs_cons (pg_name (i := 2) sc_Lstart.nd rfl (by first | exact Or.inl rfl | exact Or.inr rfl)) (pgs_cons (pg_name (i := 3) sc_Lstart.nd rfl (by first | exact Or.inl rfl | exact Or.inr rfl)) pgs_nil)))
  (pss_cons (ps_set (i := 4) sc_Lstart.nd rfl (by first | exact Or.inl rfl | exact Or.inr rfl) (C8.pe_c c_Lnew hr (by decide) rfl (pa_cons (pv 3) pa_nil)))
  (pss_one (ps_expr (pe_bm PySem.F.plainAttrs_list PySem.F.slot_list_append PySem.F.type_list_append mt_append (pv 1) (pa_cons (pe_ifExp (pt_cmpR (op_eqU hr.units) (pv 2) pe_str (nomark _)) (pv 4) (pe_op op_mulU (pe_tup (pa_cons (pv 4) pa_nil)) (pe_pr (pv 0) F.callers hr (by decide) rfl))) pa_nil))))))
  (pss_one (ps_ret (pe_callTy call_tupU rfl F.tuple boot_tuple (pa_cons (pv 1) pa_nil))))))
def l_Lstart : Nat := 4
abbrev N_Lolder : List Str := ["_law_part", "_law_one", "_law_number_here", "_law_since", "_law_age"]
abbrev P_Lolder : List Str := ["_law_part", "_law_one"]
theorem sc_Lolder : FnScope N_Lolder P_Lolder (defScope s_Lolder) := ⟨rfl, rfl, rfl, by decide +kernel, rfl, by decide +kernel, by decide +kernel⟩
def t_Lolder (X : Cx) (C CC aSCOPES aTICK : Addr) : TS := (tSeq (tIfS (tTest (tOp (rEqU (gs X C)) (tOp (rIxU (gs X C)) (tVar 0) (tC (.int 0))) (tC (.str "gap"))))
  (tRet (tIf (tTest (tOp (rI0 fun i j => .bl (decide (j < i))) (tVar 1) (tC (.int 0)))) (tOp (rI0 fun i j => .int (i - j)) (tVar 1) (tC (.int 1))) (tC (.int 0))))
  tNext)
  (tSeq (tIfS (tTest (tOp (rEqU (gs X C)) (tOp (rIxU (gs X C)) (tVar 0) (tC (.int 0))) (tC (.str "slide"))))
  (tRet (tCB (rTupU (gs X C)) (tCons (tLc (iTup X.K (tVar 1)) (gName 4) (tTest (tOp (rI0 fun i j => .bl (decide (i < j))) (tOp (rAddU (gs X C)) (tVar 4) (tC (.int 1))) (tOp (rIxU (gs X C)) (tVar 0) (tC (.int 2))))) (tOp (rAddU (gs X C)) (tVar 4) (tC (.int 1))) [4]) tNil)))
  tNext)
  (tSeq (tPar 2 3 (tCons (tOp (rIxU (gs X C)) (tVar 1) (tC (.int 0))) (tCons (tOp (rAddU (gs X C)) (tOp (rIxU (gs X C)) (tVar 1) (tC (.int 1))) (tC (.int 1))) tNil)))
  (tSeq (tIfS (tTest (tOp (rI0 fun i j => .bl (decide (i < j))) (tVar 3) (tOp (rIxU (gs X C)) (tVar 0) (tC (.int 2)))))
  (tRet (tTup (tCons (tVar 2) (tCons (tVar 3) tNil))))
  tNext)
  (tRet (tIf (tTest (tOp (rEqU (gs X C)) (tOp (rIxU (gs X C)) (tVar 0) (tC (.int 0))) (tC (.str "window")))) (tTup (tCons (tC (.int 0)) (tCons (tC (.int 0)) tNil))) (tTup (tCons (tCB rMinU (tCons (tOp (rIxU (gs X C)) (tVar 0) (tC (.int 1))) (tCons (tOp (rAddU (gs X C)) (tVar 2) (tC (.int 1))) tNil))) (tCons (tC (.int 0)) tNil)))))))))
theorem w_Lolder {P : Program} {w : World} {K : PySem.W.Frag} {mg : Str → Option Value} {base : Heap} {C CC aSCOPES aTICK f : Addr} {cdv : Value} {A : Around} {outer : List Env} {s : Shared} {H : Hp} {E : XK} (F : Ft P w K mg base C CC aSCOPES aTICK) (hr : Room 2 (XX P w K mg base d_Lolder N_Lolder f cdv A outer s H E).A) :
    PSs (XX P w K mg base d_Lolder N_Lolder f cdv A outer s H E) (defBody s_Lolder) (t_Lolder (XX P w K mg base d_Lolder N_Lolder f cdv A outer s H E) C CC aSCOPES aTICK ) :=
  (pss_cons (ps_if (pt_cmpR (op_eqU hr.units) (pe_ix (ix_U hr.units) (pv 0) pe_int (fun _ _ => rfl)) pe_str (nomark _))
  (pss_one (ps_ret (pe_ifExp (pt_cmpR op_gt (pv 1) pe_int (nomark _)) (pe_op op_sub (pv 1) pe_int) pe_int)))
  pss_nil)
  (pss_cons (ps_if (pt_cmpR (op_eqU hr.units) (pe_ix (ix_U hr.units) (pv 0) pe_int (fun _ _ => rfl)) pe_str (nomark _))
  (pss_one (ps_ret (pe_callTy call_tupU rfl F.tuple boot_tuple (pa_cons (pe_lc (own := [("_law_age", 4)]) rfl sc_Lolder.nd (pi_tup (pv 1)) (blkOk_by (N := N_Lolder) (sc := defScope s_Lolder) (by decide +kernel)) (fun _ _ _ _ _ => (pg_name (i := 4) sc_Lolder.nd rfl (by first | exact Or.inl rfl | exact Or.inr rfl))) (fun _ _ _ _ _ => (pts_one (pt_cmpR op_lt (pe_op op_addU (pv 4) pe_int) (pe_ix (ix_U hr.units) (pv 0) pe_int (fun _ _ => rfl)) (nomark _)))) (fun _ _ _ _ _ => (pe_op op_addU (pv 4) pe_int))) pa_nil))))
  pss_nil)
  (pss_cons (ps_par (i := 2) (j := 3) rfl sc_Lolder.nd rfl rfl (by decide) rfl rfl (pa_cons (pe_ix (ix_U hr.units) (pv 1) pe_int (fun _ _ => rfl)) (pa_cons (pe_op op_addU (pe_ix (ix_U hr.units) (pv 1) pe_int (fun _ _ => rfl)) pe_int) pa_nil)) rfl)
  (pss_cons (ps_if (pt_cmpR op_lt (pv 3) (pe_ix (ix_U hr.units) (pv 0) pe_int (fun _ _ => rfl)) (nomark _))
  (pss_one (ps_ret (pe_tup (pa_cons (pv 2) (pa_cons (pv 3) pa_nil)))))
  pss_nil)
  (pss_one (ps_ret (pe_ifExp (pt_cmpR (op_eqU hr.units) (pe_ix (ix_U hr.units) (pv 0) pe_int (fun _ _ => rfl)) pe_str (nomark _)) (pe_tup (pa_cons pe_int (pa_cons pe_int pa_nil))) (pe_tup (pa_cons (pe_callB (call_min2 rfl) rfl F.min boot_min (pa_cons (pe_ix (ix_U hr.units) (pv 0) pe_int (fun _ _ => rfl)) (pa_cons (pe_op op_addU (pv 2) pe_int) pa_nil))) (pa_cons pe_int pa_nil))))))))))
def l_Lolder : Nat := 3
abbrev N_Lroom : List Str := ["_law_part", "_law_one"]
abbrev P_Lroom : List Str := ["_law_part", "_law_one"]
theorem sc_Lroom : FnScope N_Lroom P_Lroom (defScope s_Lroom) := ⟨rfl, rfl, rfl, by decide +kernel, rfl, by decide +kernel, by decide +kernel⟩
def t_Lroom (X : Cx) (C CC aSCOPES aTICK : Addr) : TS := (tSeq (tIfS (tTest (tOp (rEqU (gs X C)) (tOp (rIxU (gs X C)) (tVar 0) (tC (.int 0))) (tC (.str "gap"))))
  (tRet (tOp (rEqU (gs X C)) (tVar 1) (tC (.int 0))))
  tNext)
  (tSeq (tIfS (tTest (tOp (rEqU (gs X C)) (tOp (rIxU (gs X C)) (tVar 0) (tC (.int 0))) (tC (.str "slide"))))
  (tRet (tOp (rI0 fun i j => .bl (decide (i < j))) (tCB (rLenU (gs X C)) (tCons (tVar 1) tNil)) (tOp (rIxU (gs X C)) (tVar 0) (tC (.int 1)))))
  tNext)
  (tRet (tIf (tTest (tOp (rEqU (gs X C)) (tOp (rIxU (gs X C)) (tVar 0) (tC (.int 0))) (tC (.str "window")))) (tOp (rI0 fun i j => .bl (decide (i < j))) (tOp (rIxU (gs X C)) (tVar 1) (tC (.int 0))) (tOp (rIxU (gs X C)) (tVar 0) (tC (.int 1)))) (tOp (rI0 fun i j => .bl (decide (j ≤ i))) (tOp (rIxU (gs X C)) (tVar 1) (tC (.int 0))) (tC (.int 1)))))))
theorem w_Lroom {P : Program} {w : World} {K : PySem.W.Frag} {mg : Str → Option Value} {base : Heap} {C CC aSCOPES aTICK f : Addr} {cdv : Value} {A : Around} {outer : List Env} {s : Shared} {H : Hp} {E : XK} (F : Ft P w K mg base C CC aSCOPES aTICK) (hr : Room 2 (XX P w K mg base d_Lroom N_Lroom f cdv A outer s H E).A) :
    PSs (XX P w K mg base d_Lroom N_Lroom f cdv A outer s H E) (defBody s_Lroom) (t_Lroom (XX P w K mg base d_Lroom N_Lroom f cdv A outer s H E) C CC aSCOPES aTICK ) :=
  (pss_cons (ps_if (pt_cmpR (op_eqU hr.units) (pe_ix (ix_U hr.units) (pv 0) pe_int (fun _ _ => rfl)) pe_str (nomark _))
  (pss_one (ps_ret (pe_cmpR (op_eqU hr.units) (pv 1) pe_int (nomark _))))
  pss_nil)
  (pss_cons (ps_if (pt_cmpR (op_eqU hr.units) (pe_ix (ix_U hr.units) (pv 0) pe_int (fun _ _ => rfl)) pe_str (nomark _))
  (pss_one (ps_ret (pe_cmpR op_lt (pe_callB call_lenU rfl F.len boot_len (pa_cons (pv 1) pa_nil)) (pe_ix (ix_U hr.units) (pv 0) pe_int (fun _ _ => rfl)) (nomark _))))
  pss_nil)
  (pss_one (ps_ret (pe_ifExp (pt_cmpR (op_eqU hr.units) (pe_ix (ix_U hr.units) (pv 0) pe_int (fun _ _ => rfl)) pe_str (nomark _)) (pe_cmpR op_lt (pe_ix (ix_U hr.units) (pv 1) pe_int (fun _ _ => rfl)) (pe_ix (ix_U hr.units) (pv 0) pe_int (fun _ _ => rfl)) (nomark _)) (pe_cmpR op_ge (pe_ix (ix_U hr.units) (pv 1) pe_int (fun _ _ => rfl)) pe_int (nomark _)))))))
def l_Lroom : Nat := 3
abbrev N_Lmore : List Str := ["_law_part", "_law_one"]
abbrev P_Lmore : List Str := ["_law_part", "_law_one"]
theorem sc_Lmore : FnScope N_Lmore P_Lmore (defScope s_Lmore) := ⟨rfl, rfl, rfl, by decide +kernel, rfl, by decide +kernel, by decide +kernel⟩
def t_Lmore (X : Cx) (C CC aSCOPES aTICK : Addr) : TS := (tSeq (tIfS (tTest (tOp (rEqU (gs X C)) (tOp (rIxU (gs X C)) (tVar 0) (tC (.int 0))) (tC (.str "gap"))))
  (tRet (tOp (rIxU (gs X C)) (tVar 0) (tC (.int 1))))
  tNext)
  (tSeq (tIfS (tTest (tOp (rEqU (gs X C)) (tOp (rIxU (gs X C)) (tVar 0) (tC (.int 0))) (tC (.str "slide"))))
  (tRet (tOp (rAddU (gs X C)) (tVar 1) (tTup (tCons (tC (.int 0)) tNil))))
  tNext)
  (tRet (tTup (tCons (tOp (rAddU (gs X C)) (tOp (rIxU (gs X C)) (tVar 1) (tC (.int 0))) (tIf (tTest (tOp (rEqU (gs X C)) (tOp (rIxU (gs X C)) (tVar 0) (tC (.int 0))) (tC (.str "window")))) (tC (.int 1)) (tUn (rU fun i => .int (-i)) (tC (.int 1))))) (tCons (tOp (rIxU (gs X C)) (tVar 1) (tC (.int 1))) tNil))))))
theorem w_Lmore {P : Program} {w : World} {K : PySem.W.Frag} {mg : Str → Option Value} {base : Heap} {C CC aSCOPES aTICK f : Addr} {cdv : Value} {A : Around} {outer : List Env} {s : Shared} {H : Hp} {E : XK} (F : Ft P w K mg base C CC aSCOPES aTICK) (hr : Room 2 (XX P w K mg base d_Lmore N_Lmore f cdv A outer s H E).A) :
    PSs (XX P w K mg base d_Lmore N_Lmore f cdv A outer s H E) (defBody s_Lmore) (t_Lmore (XX P w K mg base d_Lmore N_Lmore f cdv A outer s H E) C CC aSCOPES aTICK ) :=
  (pss_cons (ps_if (pt_cmpR (op_eqU hr.units) (pe_ix (ix_U hr.units) (pv 0) pe_int (fun _ _ => rfl)) pe_str (nomark _))
  (pss_one (ps_ret (pe_ix (ix_U hr.units) (pv 0) pe_int (fun _ _ => rfl))))
  pss_nil)
  (pss_cons (ps_if (pt_cmpR (op_eqU hr.units) (pe_ix (ix_U hr.units) (pv 0) pe_int (fun _ _ => rfl)) pe_str (nomark _))
  (pss_one (ps_ret (pe_op op_addU (pv 1) (pe_tup (pa_cons pe_int pa_nil)))))
  pss_nil)
  (pss_one (ps_ret (pe_tup (pa_cons (pe_op op_addU (pe_ix (ix_U hr.units) (pv 1) pe_int (fun _ _ => rfl)) (pe_ifExp (pt_cmpR (op_eqU hr.units) (pe_ix (ix_U hr.units) (pv 0) pe_int (fun _ _ => rfl)) pe_str (nomark _)) pe_int (pe_un un_neg pe_int))) (pa_cons (pe_ix (ix_U hr.units) (pv 1) pe_int (fun _ _ => rfl)) pa_nil)))))))
def l_Lmore : Nat := 3
abbrev N_Ltick : List Str := ["_law_chain_here", "_law_value", "_law_found", "_law_row", "_law_one", "_law_alone"]
abbrev P_Ltick : List Str := ["_law_chain_here", "_law_value"]
theorem sc_Ltick : FnScope N_Ltick P_Ltick (defScope s_Ltick) := ⟨rfl, rfl, rfl, by decide +kernel, rfl, by decide +kernel, by decide +kernel⟩
def t_Ltick (X : Cx) (C CC aSCOPES aTICK : Addr) (sp_Lolder : Sp) : TS := (tSeq (tAsg (tLst tNil) (gName 2))
  (tSeq (tFor (RZ.iZipA X.K (tCons (tProp C (getSp C "rows") [] C8.E0 (tVar 0)) (tCons (tVar 1) tNil))) (gTup X.K 2 (gCons (gName 3) (gCons (gName 4) gNil)))
  (tIfS (tTest (tOp (rEqU (gs X C)) (tOp (rIxU (gs X C)) (tVar 3) (tC (.int 0))) (tC (.str "all"))))
  (tDrop (tBM X.K "list" rAppend (tVar 2) (tCons (tCall sp_Lolder [] C8.E0 (tCons (tOp (rIxU (gs X C)) (tVar 3) (tC (.int 1))) (tCons (tVar 4) tNil))) tNil)))
  (tDrop (tBM X.K "list" rAppend (tVar 2) (tCons (tCB (rTupU (gs X C)) (tCons (tLc (iTup X.K (tVar 4)) (gName 5) tYes (tCall sp_Lolder [] C8.E0 (tCons (tOp (rIxU (gs X C)) (tVar 3) (tC (.int 1))) (tCons (tVar 5) tNil))) [5]) tNil)) tNil)))))
  (tRet (tCB (rTupU (gs X C)) (tCons (tVar 2) tNil)))))
theorem w_Ltick {P : Program} {w : World} {K : PySem.W.Frag} {mg : Str → Option Value} {base : Heap} {C CC aSCOPES aTICK f : Addr} {cdv : Value} {A : Around} {outer : List Env} {s : Shared} {H : Hp} {E : XK} {sp_Lolder : Sp} (F : Ft P w K mg base C CC aSCOPES aTICK) (hr : Room 3 (XX P w K mg base d_Ltick N_Ltick f cdv A outer s H E).A) (c_Lolder : C8.Cal P w K mg base 3 "_law_older" sp_Lolder []) :
    PSs (XX P w K mg base d_Ltick N_Ltick f cdv A outer s H E) (defBody s_Ltick) (t_Ltick (XX P w K mg base d_Ltick N_Ltick f cdv A outer s H E) C CC aSCOPES aTICK sp_Lolder) :=
  (pss_cons (ps_set (i := 2) sc_Ltick.nd rfl (by first | exact Or.inl rfl | exact Or.inr rfl) (pe_lst pa_nil))
  (pss_cons (ps_for PassesOwn.never rfl (RZ.pi_zipA rfl F.zip (pa_cons (pe_pr (pv 0) F.links hr (by decide) rfl) (pa_cons (pv 1) pa_nil))) (pg_tup rfl (pgs_cons (pg_name (i := 3) sc_Ltick.nd rfl (by first | exact Or.inl rfl | exact Or.inr rfl)) (pgs_cons (pg_name (i := 4) sc_Ltick.nd rfl (by first | exact Or.inl rfl | exact Or.inr rfl)) pgs_nil)))
  (pss_one (ps_if (pt_cmpR (op_eqU hr.units) (pe_ix (ix_U hr.units) (pv 3) pe_int (fun _ _ => rfl)) pe_str (nomark _))
  (pss_one (ps_expr (pe_bm PySem.F.plainAttrs_list PySem.F.slot_list_append PySem.F.type_list_append mt_append (pv 2) (pa_cons (C8.pe_c c_Lolder hr (by decide) rfl (pa_cons (pe_ix (ix_U hr.units) (pv 3) pe_int (fun _ _ => rfl)) (pa_cons (pv 4) pa_nil))) pa_nil))))
  (pss_one (ps_expr (pe_bm PySem.F.plainAttrs_list PySem.F.slot_list_append PySem.F.type_list_append mt_append (pv 2) (pa_cons (pe_callTy call_tupU rfl F.tuple boot_tuple (pa_cons (pe_lc (own := [("_law_alone", 5)]) rfl sc_Ltick.nd (pi_tup (pv 4)) (blkOk_by (N := N_Ltick) (sc := defScope s_Ltick) (by decide +kernel)) (fun _ _ _ _ _ => (pg_name (i := 5) sc_Ltick.nd rfl (by first | exact Or.inl rfl | exact Or.inr rfl))) (fun _ _ _ _ _ => pts_nil) (fun _ _ _ _ _ => (C8.pe_c c_Lolder hr (by decide) rfl (pa_cons (pe_ix (ix_U hr.units) (pv 3) pe_int (fun _ _ => rfl)) (pa_cons (pv 5) pa_nil))))) pa_nil)) pa_nil)))))))
  (pss_one (ps_ret (pe_callTy call_tupU rfl F.tuple boot_tuple (pa_cons (pv 2) pa_nil))))))
def l_Ltick : Nat := 4
abbrev N_Lask : List Str := ["_law_chain_here", "_law_value", "_law_who", "_law_rows", "_law_is_let", "_law_at", "_law_row", "_law_one", "_law_late"]
abbrev P_Lask : List Str := ["_law_chain_here", "_law_value", "_law_who"]
theorem sc_Lask : FnScope N_Lask P_Lask (defScope s_Lask) := ⟨rfl, rfl, rfl, by decide +kernel, rfl, by decide +kernel, by decide +kernel⟩
def t_Lask (X : Cx) (C CC aSCOPES aTICK : Addr) (sp_Lroom sp_Lmore : Sp) : TS := (tSeq (tPar 3 4 (tCons (tCB (rLstU (gs X C)) (tCons (tVar 1) tNil)) (tCons (tC (.bl true)) tNil)))
  (tSeq (tFor (iEnT X.K (tCons (tProp C (getSp C "rows") [] C8.E0 (tVar 0)) tNil)) (gTup X.K 2 (gCons (gName 5) (gCons (gName 6) gNil)))
  (tSeq (tAsg (tIf (tTest (tOp (rEqU (gs X C)) (tOp (rIxU (gs X C)) (tVar 6) (tC (.int 0))) (tC (.str "all")))) (tOp (rIxU (gs X C)) (tVar 3) (tVar 5)) (tOp (rIxU (gs X C)) (tOp (rIxU (gs X C)) (tVar 3) (tVar 5)) (tVar 2))) (gName 7))
  (tSeq (tIfS (tNot (tB (tCall sp_Lroom [] C8.E0 (tCons (tOp (rIxU (gs X C)) (tVar 6) (tC (.int 1))) (tCons (tVar 7) tNil)))))
  (tSeq (tAsg (tC (.bl false)) (gName 4))
  tBreak)
  tNext)
  (tSeq (tAsg (tCall sp_Lmore [] C8.E0 (tCons (tOp (rIxU (gs X C)) (tVar 6) (tC (.int 1))) (tCons (tVar 7) tNil))) (gName 8))
  (tSeq (tIfS (tTest (tOp (rEqU (gs X C)) (tOp (rIxU (gs X C)) (tVar 6) (tC (.int 0))) (tC (.str "each"))))
  (tAsg (tOp (rAddU (gs X C)) (tOp (rAddU (gs X C)) (tSl (rSlU (gs X C)) (tOp (rIxU (gs X C)) (tVar 3) (tVar 5)) tNoPart (tPart (tVar 2))) (tTup (tCons (tVar 8) tNil))) (tSl (rSlU (gs X C)) (tOp (rIxU (gs X C)) (tVar 3) (tVar 5)) (tPart (tOp (rAddU (gs X C)) (tVar 2) (tC (.int 1)))) tNoPart)) (gName 8))
  tNext)
  (tAsg (tVar 8) (gSub (tVar 3) (tVar 5) rSetL)))))))
  (tRet (tTup (tCons (tVar 4) (tCons (tIf (tOr (tB (tVar 4)) (tB (tProp C (getSp C "costly") [] C8.E0 (tVar 0)))) (tCB (rTupU (gs X C)) (tCons (tVar 3) tNil)) (tVar 1)) tNil))))))
theorem w_Lask {P : Program} {w : World} {K : PySem.W.Frag} {mg : Str → Option Value} {base : Heap} {C CC aSCOPES aTICK f : Addr} {cdv : Value} {A : Around} {outer : List Env} {s : Shared} {H : Hp} {E : XK} {sp_Lroom sp_Lmore : Sp} (F : Ft P w K mg base C CC aSCOPES aTICK) (hr : Room 3 (XX P w K mg base d_Lask N_Lask f cdv A outer s H E).A) (c_Lroom : C8.Cal P w K mg base 3 "_law_room" sp_Lroom []) (c_Lmore : C8.Cal P w K mg base 3 "_law_more" sp_Lmore []) :
    PSs (XX P w K mg base d_Lask N_Lask f cdv A outer s H E) (defBody s_Lask) (t_Lask (XX P w K mg base d_Lask N_Lask f cdv A outer s H E) C CC aSCOPES aTICK sp_Lroom sp_Lmore) :=
  (pss_cons (ps_par (i := 3) (j := 4) rfl sc_Lask.nd rfl rfl (by decide) rfl rfl (pa_cons (pe_callTy (call_lstU rfl) rfl F.list boot_list (pa_cons (pv 1) pa_nil)) (pa_cons pe_bl pa_nil)) rfl)
  (pss_cons (ps_for PassesOwn.never rfl (pi_enT rfl F.enumerate (pa_cons (pe_pr (pv 0) F.links hr (by decide) rfl) pa_nil)) (pg_tup rfl (pgs_cons (pg_name (i := 5) sc_Lask.nd rfl (by first | exact Or.inl rfl | exact Or.inr rfl)) (pgs_cons (pg_name (i := 6) sc_Lask.nd rfl (by first | exact Or.inl rfl | exact Or.inr rfl)) pgs_nil)))
  (pss_cons (ps_set (i := 7) sc_Lask.nd rfl (by first | exact Or.inl rfl | exact Or.inr rfl) (pe_ifExp (pt_cmpR (op_eqU hr.units) (pe_ix (ix_U hr.units) (pv 6) pe_int (fun _ _ => rfl)) pe_str (nomark _)) (pe_ix (ix_U hr.units) (pv 3) (pv 5) (fun _ _ => rfl)) (pe_ix (ix_U hr.units) (pe_ix (ix_U hr.units) (pv 3) (pv 5) (fun _ _ => rfl)) (pv 2) (fun _ _ => rfl))))
  (pss_cons (ps_if (pt_not (pt_val (C8.pe_c c_Lroom hr (by decide) rfl (pa_cons (pe_ix (ix_U hr.units) (pv 6) pe_int (fun _ _ => rfl)) (pa_cons (pv 7) pa_nil)))))
  (pss_cons (ps_set (i := 4) sc_Lask.nd rfl (by first | exact Or.inl rfl | exact Or.inr rfl) pe_bl)
  (pss_one ps_break))
  pss_nil)
  (pss_cons (ps_set (i := 8) sc_Lask.nd rfl (by first | exact Or.inl rfl | exact Or.inr rfl) (C8.pe_c c_Lmore hr (by decide) rfl (pa_cons (pe_ix (ix_U hr.units) (pv 6) pe_int (fun _ _ => rfl)) (pa_cons (pv 7) pa_nil))))
  (pss_cons (ps_if (pt_cmpR (op_eqU hr.units) (pe_ix (ix_U hr.units) (pv 6) pe_int (fun _ _ => rfl)) pe_str (nomark _))
  (pss_one (ps_set (i := 8) sc_Lask.nd rfl (by first | exact Or.inl rfl | exact Or.inr rfl) (pe_op op_addU (pe_op op_addU (pe_slice sl_U (pe_ix (ix_U hr.units) (pv 3) (pv 5) (fun _ _ => rfl)) po_none (po_some (pv 2))) (pe_tup (pa_cons (pv 8) pa_nil))) (pe_slice sl_U (pe_ix (ix_U hr.units) (pv 3) (pv 5) (fun _ _ => rfl)) (po_some (pe_op op_addU (pv 2) pe_int)) po_none))))
  pss_nil)
  (pss_one (ps_asg (pv 8) (pg_sub (pv 3) (pv 5) set_list))))))))
  (pss_one (ps_ret (pe_tup (pa_cons (pv 4) (pa_cons (pe_ifExp (PW.pt (pw_or (pt_val (pv 4)) (pw_or1 (pt_val (pe_pr (pv 0) F.charges hr (by decide) rfl))))) (pe_callTy call_tupU rfl F.tuple boot_tuple (pa_cons (pv 3) pa_nil)) (pv 1)) pa_nil)))))))
def l_Lask : Nat := 4
abbrev N_Lstep : List Str := ["_law_chain_here", "_law_value", "_law_event"]
abbrev P_Lstep : List Str := ["_law_chain_here", "_law_value", "_law_event"]
theorem sc_Lstep : FnScope N_Lstep P_Lstep (defScope s_Lstep) := ⟨rfl, rfl, rfl, by decide +kernel, rfl, by decide +kernel, by decide +kernel⟩
def t_Lstep (X : Cx) (C CC aSCOPES aTICK : Addr) (sp_Ltick sp_Lask : Sp) : TS := (tSeq (tIfS (tTest (tOp (rEqU (gs X C)) (tVar 2) (tTup (tCons (tC (.str "tick")) tNil))))
  (tRet (tTup (tCons (tC .non) (tCons (tCall sp_Ltick [] C8.E0 (tCons (tVar 0) (tCons (tVar 1) tNil))) tNil))))
  tNext)
  (tRet (tCall sp_Lask [] C8.E0 (tCons (tVar 0) (tCons (tVar 1) (tCons (tOp (rIxU (gs X C)) (tVar 2) (tC (.int 1))) tNil))))))
theorem w_Lstep {P : Program} {w : World} {K : PySem.W.Frag} {mg : Str → Option Value} {base : Heap} {C CC aSCOPES aTICK f : Addr} {cdv : Value} {A : Around} {outer : List Env} {s : Shared} {H : Hp} {E : XK} {sp_Ltick sp_Lask : Sp} (F : Ft P w K mg base C CC aSCOPES aTICK) (hr : Room 4 (XX P w K mg base d_Lstep N_Lstep f cdv A outer s H E).A) (c_Ltick : C8.Cal P w K mg base 4 "_law_tick" sp_Ltick []) (c_Lask : C8.Cal P w K mg base 4 "_law_ask" sp_Lask []) :
    PSs (XX P w K mg base d_Lstep N_Lstep f cdv A outer s H E) (defBody s_Lstep) (t_Lstep (XX P w K mg base d_Lstep N_Lstep f cdv A outer s H E) C CC aSCOPES aTICK sp_Ltick sp_Lask) :=
  (pss_cons (ps_if (pt_cmpR (op_eqU hr.units) (pv 2) (pe_tup (pa_cons pe_str pa_nil)) (nomark _))
  (pss_one (ps_ret (pe_tup (pa_cons pe_non (pa_cons (C8.pe_c c_Ltick hr (by decide) rfl (pa_cons (pv 0) (pa_cons (pv 1) pa_nil))) pa_nil)))))
  pss_nil)
  (pss_one (ps_ret (C8.pe_c c_Lask hr (by decide) rfl (pa_cons (pv 0) (pa_cons (pv 1) (pa_cons (pe_ix (ix_U hr.units) (pv 2) pe_int (fun _ _ => rfl)) pa_nil)))))))
def l_Lstep : Nat := 5
end K3

set_option Elab.async false
set_option linter.all false
set_option maxRecDepth 100000
set_option maxHeartbeats 4000000
/-! Walks (printed by gen_walk.py). -/
namespace K3
open PySem PySem.Spec PyProof.Rows L2 He

abbrev N_Lreached : List Str := ["_law_chain_here", "_law_limit", "_law_found", "_law_at", "_law_event", "_law_late"]
abbrev P_Lreached : List Str := ["_law_chain_here", "_law_limit"]
theorem sc_Lreached : FnScope N_Lreached P_Lreached (defScope s_Lreached) := ⟨rfl, rfl, rfl, by decide +kernel, rfl, by decide +kernel, by decide +kernel⟩
def t_Lreached (X : Cx) (C CC aSCOPES aTICK : Addr) (sp_Lstart sp_Levents sp_Lstep : Sp) : TS := (tSeq (tPar 2 3 (tCons (tLst (tCons (tCall sp_Lstart [] C8.E0 (tCons (tVar 0) tNil)) tNil)) (tCons (tC (.int 0)) tNil)))
  (tSeq (tWhile (tTest (tOp (rI0 fun i j => .bl (decide (i < j))) (tVar 3) (tCB (rLenU (gs X C)) (tCons (tVar 2) tNil))))
  (tSeq (tFor (iList X.K (tCall sp_Levents [] C8.E0 (tCons (tVar 0) tNil))) (gName 4)
  (tSeq (tAsg (tOp (rIxU (gs X C)) (tCall sp_Lstep [] C8.E0 (tCons (tVar 0) (tCons (tOp (rIxU (gs X C)) (tVar 2) (tVar 3)) (tCons (tVar 4) tNil)))) (tC (.int 1))) (gName 5))
  (tIfS (tTest (tOp (rNiU (gs X C)) (tVar 5) (tVar 2)))
  (tDrop (tBM X.K "list" rAppend (tVar 2) (tCons (tVar 5) tNil)))
  tNext)))
  (tSeq (tAsg (tOp (rAddU (gs X C)) (tVar 3) (tC (.int 1))) (gName 3))
  (tIfS (tTest (tOp (rI0 fun i j => .bl (decide (j < i))) (tCB (rLenU (gs X C)) (tCons (tVar 2) tNil)) (tVar 1)))
  (tRet (tC .non))
  tNext))))
  (tRet (tVar 2))))
theorem w_Lreached {P : Program} {w : World} {K : PySem.W.Frag} {mg : Str → Option Value} {base : Heap} {C CC aSCOPES aTICK f : Addr} {cdv : Value} {A : Around} {outer : List Env} {s : Shared} {H : Hp} {E : XK} {sp_Lstart sp_Levents sp_Lstep : Sp} (F : Ft P w K mg base C CC aSCOPES aTICK) (hr : Room 5 (XX P w K mg base d_Lreached N_Lreached f cdv A outer s H E).A) (c_Lstart : C8.Cal P w K mg base 4 "_law_start" sp_Lstart []) (c_Levents : C8.Cal P w K mg base 3 "_law_events" sp_Levents []) (c_Lstep : C8.Cal P w K mg base 5 "_law_step" sp_Lstep []) :
    PSs (XX P w K mg base d_Lreached N_Lreached f cdv A outer s H E) (defBody s_Lreached) (t_Lreached (XX P w K mg base d_Lreached N_Lreached f cdv A outer s H E) C CC aSCOPES aTICK sp_Lstart sp_Levents sp_Lstep) :=
  (pss_cons (ps_par (i := 2) (j := 3) rfl sc_Lreached.nd rfl rfl (by decide) rfl rfl (pa_cons (pe_lst (pa_cons (C8.pe_c c_Lstart hr (by decide) rfl (pa_cons (pv 0) pa_nil)) pa_nil)) (pa_cons pe_int pa_nil)) rfl)
  (pss_cons (ps_while PassesOwn.never (pt_cmpR op_lt (pv 3) (pe_callB call_lenU rfl F.len boot_len (pa_cons (pv 2) pa_nil)) (nomark _))
  (pss_cons (ps_for PassesOwn.never rfl (pi_list (C8.pe_c c_Levents hr (by decide) rfl (pa_cons (pv 0) pa_nil))) (pg_name (i := 4) sc_Lreached.nd rfl (by first | exact Or.inl rfl | exact Or.inr rfl))
  (pss_cons (ps_set (i := 5) sc_Lreached.nd rfl (by first | exact Or.inl rfl | exact Or.inr rfl) (pe_ix (ix_U hr.units) (C8.pe_c c_Lstep hr (by decide) rfl (pa_cons (pv 0) (pa_cons (pe_ix (ix_U hr.units) (pv 2) (pv 3) (fun _ _ => rfl)) (pa_cons (pv 4) pa_nil)))) pe_int (fun _ _ => rfl)))
  (pss_one (ps_if (pt_cmpR (op_niU (Room_u65 hr)) (pv 5) (pv 2) rfl)
  (pss_one (ps_expr (pe_bm PySem.F.plainAttrs_list PySem.F.slot_list_append PySem.F.type_list_append mt_append (pv 2) (pa_cons (pv 5) pa_nil))))
  pss_nil))))
  (pss_cons (ps_set (i := 3) sc_Lreached.nd rfl (by first | exact Or.inl rfl | exact Or.inr rfl) (pe_op op_addU (pv 3) pe_int))
  (pss_one (ps_if (pt_cmpR op_gt (pe_callB call_lenU rfl F.len boot_len (pa_cons (pv 2) pa_nil)) (pv 1) (nomark _))
  (pss_one (ps_ret pe_non))
  pss_nil)))))
  (pss_one (ps_ret (pv 2)))))
def l_Lreached : Nat := 6
abbrev N_Lapart : List Str := ["_law_chain_here", "_law_one", "_law_other", "_law_met", "_law_queue", "_law_pair", "_law_event", "_law_mine", "_law_here", "_law_theirs", "_law_there"]
abbrev P_Lapart : List Str := ["_law_chain_here", "_law_one", "_law_other"]
theorem sc_Lapart : FnScope N_Lapart P_Lapart (defScope s_Lapart) := ⟨rfl, rfl, rfl, by decide +kernel, rfl, by decide +kernel, by decide +kernel⟩
def t_Lapart (X : Cx) (C CC aSCOPES aTICK : Addr) (sp_Levents sp_Lstep : Sp) : TS := (tSeq (tPar 3 4 (tCons (tCB (rDPairs X C) (tCons (tLst (tCons (tTup (tCons (tTup (tCons (tVar 1) (tCons (tVar 2) tNil))) (tCons (tTup tNil) tNil))) tNil)) tNil)) (tCons (tLst (tCons (tTup (tCons (tVar 1) (tCons (tVar 2) tNil))) tNil)) tNil)))
  (tSeq (tWhile (tTest (tOp (rNeU (gs X C)) (tVar 4) (tLst tNil)))
  (tSeq (tAsg (tBM X.K "list" rPopAt (tVar 4) (tCons (tC (.int 0)) tNil)) (gName 5))
  (tFor (iList X.K (tCall sp_Levents [] C8.E0 (tCons (tVar 0) tNil))) (gName 6)
  (tSeq (tAsg (tCall sp_Lstep [] C8.E0 (tCons (tVar 0) (tCons (tOp (rIxU (gs X C)) (tVar 5) (tC (.int 0))) (tCons (tVar 6) tNil)))) (gTup X.K 2 (gCons (gName 7) (gCons (gName 8) gNil))))
  (tSeq (tAsg (tCall sp_Lstep [] C8.E0 (tCons (tVar 0) (tCons (tOp (rIxU (gs X C)) (tVar 5) (tC (.int 1))) (tCons (tVar 6) tNil)))) (gTup X.K 2 (gCons (gName 9) (gCons (gName 10) gNil))))
  (tSeq (tIfS (tTest (tOp (rNeU (gs X C)) (tVar 7) (tVar 9)))
  (tRet (tOp (rAddU (gs X C)) (tOp (rIxU (gs X C)) (tVar 3) (tVar 5)) (tTup (tCons (tVar 6) tNil))))
  tNext)
  (tIfS (tTest (tOp (rNiU (gs X C)) (tTup (tCons (tVar 8) (tCons (tVar 10) tNil))) (tVar 3)))
  (tSeq (tAsg (tOp (rAddU (gs X C)) (tOp (rIxU (gs X C)) (tVar 3) (tVar 5)) (tTup (tCons (tVar 6) tNil))) (gSub (tVar 3) (tTup (tCons (tVar 8) (tCons (tVar 10) tNil))) (rDSet X C)))
  (tDrop (tBM X.K "list" rAppend (tVar 4) (tCons (tTup (tCons (tVar 8) (tCons (tVar 10) tNil))) tNil))))
  tNext)))))))
  (tRet (tC .non))))
theorem w_Lapart {P : Program} {w : World} {K : PySem.W.Frag} {mg : Str → Option Value} {base : Heap} {C CC aSCOPES aTICK f : Addr} {cdv : Value} {A : Around} {outer : List Env} {s : Shared} {H : Hp} {E : XK} {sp_Levents sp_Lstep : Sp} (F : Ft P w K mg base C CC aSCOPES aTICK) (hr : Room 5 (XX P w K mg base d_Lapart N_Lapart f cdv A outer s H E).A) (c_Levents : C8.Cal P w K mg base 3 "_law_events" sp_Levents []) (c_Lstep : C8.Cal P w K mg base 5 "_law_step" sp_Lstep []) :
    PSs (XX P w K mg base d_Lapart N_Lapart f cdv A outer s H E) (defBody s_Lapart) (t_Lapart (XX P w K mg base d_Lapart N_Lapart f cdv A outer s H E) C CC aSCOPES aTICK sp_Levents sp_Lstep) :=
  (pss_cons (ps_par (i := 3) (j := 4) rfl sc_Lapart.nd rfl rfl (by decide) rfl rfl (pa_cons (pe_callTy (call_dict_prs rfl hr.units) rfl F.dict boot_dict (pa_cons (pe_lst (pa_cons (pe_tup (pa_cons (pe_tup (pa_cons (pv 1) (pa_cons (pv 2) pa_nil))) (pa_cons (pe_tup pa_nil) pa_nil))) pa_nil)) pa_nil)) (pa_cons (pe_lst (pa_cons (pe_tup (pa_cons (pv 1) (pa_cons (pv 2) pa_nil))) pa_nil)) pa_nil)) rfl)
  (pss_cons (ps_while PassesOwn.never (pt_cmpR (op_neU hr.units) (pv 4) (pe_lst pa_nil) (nomark _))
  (pss_cons (ps_set (i := 5) sc_Lapart.nd rfl (by first | exact Or.inl rfl | exact Or.inr rfl) (pe_bm PySem.F.plainAttrs_list PySem.F.slot_list_pop PySem.F.type_list_pop mt_popAt (pv 4) (pa_cons pe_int pa_nil)))
  (pss_one (ps_for PassesOwn.never rfl (pi_list (C8.pe_c c_Levents hr (by decide) rfl (pa_cons (pv 0) pa_nil))) (pg_name (i := 6) sc_Lapart.nd rfl (by first | exact Or.inl rfl | exact Or.inr rfl))
  (pss_cons (ps_asg (C8.pe_c c_Lstep hr (by decide) rfl (pa_cons (pv 0) (pa_cons (pe_ix (ix_U hr.units) (pv 5) pe_int (fun _ _ => rfl)) (pa_cons (pv 6) pa_nil)))) (pg_tup rfl (pgs_cons (pg_name (i := 7) sc_Lapart.nd rfl (by first | exact Or.inl rfl | exact Or.inr rfl)) (pgs_cons (pg_name (i := 8) sc_Lapart.nd rfl (by first | exact Or.inl rfl | exact Or.inr rfl)) pgs_nil))))
  (pss_cons (ps_asg (C8.pe_c c_Lstep hr (by decide) rfl (pa_cons (pv 0) (pa_cons (pe_ix (ix_U hr.units) (pv 5) pe_int (fun _ _ => rfl)) (pa_cons (pv 6) pa_nil)))) (pg_tup rfl (pgs_cons (pg_name (i := 9) sc_Lapart.nd rfl (by first | exact Or.inl rfl | exact Or.inr rfl)) (pgs_cons (pg_name (i := 10) sc_Lapart.nd rfl (by first | exact Or.inl rfl | exact Or.inr rfl)) pgs_nil))))
  (pss_cons (ps_if (pt_cmpR (op_neU hr.units) (pv 7) (pv 9) (nomark _))
  (pss_one (ps_ret (pe_op op_addU (pe_ix (ix_U hr.units) (pv 3) (pv 5) (fun _ _ => rfl)) (pe_tup (pa_cons (pv 6) pa_nil)))))
  pss_nil)
  (pss_one (ps_if (pt_cmpR (op_niU (Room_u65 hr)) (pe_tup (pa_cons (pv 8) (pa_cons (pv 10) pa_nil))) (pv 3) rfl)
  (pss_cons (ps_asg (pe_op op_addU (pe_ix (ix_U hr.units) (pv 3) (pv 5) (fun _ _ => rfl)) (pe_tup (pa_cons (pv 6) pa_nil))) (pg_sub (pv 3) (pe_tup (pa_cons (pv 8) (pa_cons (pv 10) pa_nil))) (set_dct hr.units)))
  (pss_one (ps_expr (pe_bm PySem.F.plainAttrs_list PySem.F.slot_list_append PySem.F.type_list_append mt_append (pv 4) (pa_cons (pe_tup (pa_cons (pv 8) (pa_cons (pv 10) pa_nil))) pa_nil)))))
  pss_nil)))))))))
  (pss_one (ps_ret pe_non))))
def l_Lapart : Nat := 6
abbrev N_Lspeaks : List Str := ["_law_chain_here", "_law_one", "_law_other", "_law_history", "_law_is_apart", "_law_event", "_law_mine", "_law_theirs"]
abbrev P_Lspeaks : List Str := ["_law_chain_here", "_law_one", "_law_other", "_law_history"]
theorem sc_Lspeaks : FnScope N_Lspeaks P_Lspeaks (defScope s_Lspeaks) := ⟨rfl, rfl, rfl, by decide +kernel, rfl, by decide +kernel, by decide +kernel⟩
def t_Lspeaks (X : Cx) (C CC aSCOPES aTICK : Addr) (sp_Lstep : Sp) : TS := (tSeq (tAsg (tC (.bl false)) (gName 4))
  (tSeq (tFor (iTup X.K (tVar 3)) (gName 5)
  (tSeq (tIfS (tB (tVar 4))
  (tRet (tC (.bl false)))
  tNext)
  (tSeq (tAsg (tCall sp_Lstep [] C8.E0 (tCons (tVar 0) (tCons (tVar 1) (tCons (tVar 5) tNil)))) (gTup X.K 2 (gCons (gName 6) (gCons (gName 1) gNil))))
  (tSeq (tAsg (tCall sp_Lstep [] C8.E0 (tCons (tVar 0) (tCons (tVar 2) (tCons (tVar 5) tNil)))) (gTup X.K 2 (gCons (gName 7) (gCons (gName 2) gNil))))
  (tAsg (tOp (rNeU (gs X C)) (tVar 6) (tVar 7)) (gName 4))))))
  (tRet (tVar 4))))
theorem w_Lspeaks {P : Program} {w : World} {K : PySem.W.Frag} {mg : Str → Option Value} {base : Heap} {C CC aSCOPES aTICK f : Addr} {cdv : Value} {A : Around} {outer : List Env} {s : Shared} {H : Hp} {E : XK} {sp_Lstep : Sp} (F : Ft P w K mg base C CC aSCOPES aTICK) (hr : Room 5 (XX P w K mg base d_Lspeaks N_Lspeaks f cdv A outer s H E).A) (c_Lstep : C8.Cal P w K mg base 5 "_law_step" sp_Lstep []) :
    PSs (XX P w K mg base d_Lspeaks N_Lspeaks f cdv A outer s H E) (defBody s_Lspeaks) (t_Lspeaks (XX P w K mg base d_Lspeaks N_Lspeaks f cdv A outer s H E) C CC aSCOPES aTICK sp_Lstep) :=
  (pss_cons (ps_set (i := 4) sc_Lspeaks.nd rfl (by first | exact Or.inl rfl | exact Or.inr rfl) pe_bl)
  (pss_cons (ps_for PassesOwn.never rfl (pi_tup (pv 3)) (pg_name (i := 5) sc_Lspeaks.nd rfl (by first | exact Or.inl rfl | exact Or.inr rfl))
  (pss_cons (ps_if (pt_val (pv 4))
  (pss_one (ps_ret pe_bl))
  pss_nil)
  (pss_cons (ps_asg (C8.pe_c c_Lstep hr (by decide) rfl (pa_cons (pv 0) (pa_cons (pv 1) (pa_cons (pv 5) pa_nil)))) (pg_tup rfl (pgs_cons (pg_name (i := 6) sc_Lspeaks.nd rfl (by first | exact Or.inl rfl | exact Or.inr rfl)) (pgs_cons (pg_name (i := 1) sc_Lspeaks.nd rfl (by first | exact Or.inl rfl | exact Or.inr rfl)) pgs_nil))))
  (pss_cons (ps_asg (C8.pe_c c_Lstep hr (by decide) rfl (pa_cons (pv 0) (pa_cons (pv 2) (pa_cons (pv 5) pa_nil)))) (pg_tup rfl (pgs_cons (pg_name (i := 7) sc_Lspeaks.nd rfl (by first | exact Or.inl rfl | exact Or.inr rfl)) (pgs_cons (pg_name (i := 2) sc_Lspeaks.nd rfl (by first | exact Or.inl rfl | exact Or.inr rfl)) pgs_nil))))
  (pss_one (ps_set (i := 4) sc_Lspeaks.nd rfl (by first | exact Or.inl rfl | exact Or.inr rfl) (pe_cmpR (op_neU hr.units) (pv 6) (pv 7) (nomark _))))))))
  (pss_one (ps_ret (pv 4)))))
def l_Lspeaks : Nat := 6
abbrev N_Lgroups : List Str := ["_law_chain_here", "_law_rows", "_law_found", "_law_value", "_law_fits", "_law_some"]
abbrev P_Lgroups : List Str := ["_law_chain_here", "_law_rows"]
theorem sc_Lgroups : FnScope N_Lgroups P_Lgroups (defScope s_Lgroups) := ⟨rfl, rfl, rfl, by decide +kernel, rfl, by decide +kernel, by decide +kernel⟩
def t_Lgroups (X : Cx) (C CC aSCOPES aTICK : Addr) (sp_Lapart : Sp) : TS := (tSeq (tAsg (tLst tNil) (gName 2))
  (tSeq (tFor (iList X.K (tVar 1)) (gName 3)
  (tSeq (tAsg (tLc (iList X.K (tVar 2)) (gName 5) (tTest (tOp rNoneIs (tCall sp_Lapart [] C8.E0 (tCons (tVar 0) (tCons (tOp (rIxU (gs X C)) (tVar 5) (tC (.int 0))) (tCons (tVar 3) tNil)))) (tC .non))) (tVar 5) [5]) (gName 4))
  (tIfS (tTest (tOp (rEqU (gs X C)) (tVar 4) (tLst tNil)))
  (tDrop (tBM X.K "list" rAppend (tVar 2) (tCons (tLst (tCons (tVar 3) tNil)) tNil)))
  (tDrop (tBM X.K "list" rAppend (tOp (rIxU (gs X C)) (tVar 4) (tC (.int 0))) (tCons (tVar 3) tNil))))))
  (tRet (tVar 2))))
theorem w_Lgroups {P : Program} {w : World} {K : PySem.W.Frag} {mg : Str → Option Value} {base : Heap} {C CC aSCOPES aTICK f : Addr} {cdv : Value} {A : Around} {outer : List Env} {s : Shared} {H : Hp} {E : XK} {sp_Lapart : Sp} (F : Ft P w K mg base C CC aSCOPES aTICK) (hr : Room 6 (XX P w K mg base d_Lgroups N_Lgroups f cdv A outer s H E).A) (c_Lapart : C8.Cal P w K mg base 6 "_law_apart" sp_Lapart []) :
    PSs (XX P w K mg base d_Lgroups N_Lgroups f cdv A outer s H E) (defBody s_Lgroups) (t_Lgroups (XX P w K mg base d_Lgroups N_Lgroups f cdv A outer s H E) C CC aSCOPES aTICK sp_Lapart) :=
  (pss_cons (ps_set (i := 2) sc_Lgroups.nd rfl (by first | exact Or.inl rfl | exact Or.inr rfl) (pe_lst pa_nil))
  (pss_cons (ps_for PassesOwn.never rfl (pi_list (pv 1)) (pg_name (i := 3) sc_Lgroups.nd rfl (by first | exact Or.inl rfl | exact Or.inr rfl))
  (pss_cons (ps_setLc (i := 4) (own := [("_law_some", 5)]) rfl sc_Lgroups.nd rfl rfl (sw_true rfl rfl rfl (by decide +kernel)) (pi_list (pv 2)) (blkOk_by (N := N_Lgroups) (sc := defScope s_Lgroups) (by decide +kernel)) (fun _ _ _ _ _ => (pg_name (i := 5) sc_Lgroups.nd rfl (by first | exact Or.inl rfl | exact Or.inr rfl))) (fun _ _ _ _ _ => (pts_one (pt_cmpR op_isN (C8.pe_c c_Lapart hr (by decide) rfl (pa_cons (pv 0) (pa_cons (pe_ix (ix_U hr.units) (pv 5) pe_int (fun _ _ => rfl)) (pa_cons (pv 3) pa_nil)))) pe_non (nomark _)))) (fun _ _ _ _ _ => (pv 5)))
  (pss_one (ps_if (pt_cmpR (op_eqU hr.units) (pv 4) (pe_lst pa_nil) (nomark _))
  (pss_one (ps_expr (pe_bm PySem.F.plainAttrs_list PySem.F.slot_list_append PySem.F.type_list_append mt_append (pv 2) (pa_cons (pe_lst (pa_cons (pv 3) pa_nil)) pa_nil))))
  (pss_one (ps_expr (pe_bm PySem.F.plainAttrs_list PySem.F.slot_list_append PySem.F.type_list_append mt_append (pe_ix (ix_U hr.units) (pv 4) pe_int (fun _ _ => rfl)) (pa_cons (pv 3) pa_nil))))))))
  (pss_one (ps_ret (pv 2)))))
def l_Lgroups : Nat := 7
abbrev N_Lone_right : List Str := ["_law_draw_here", "_law_chain_here", "_law_rows", "_law_due", "_law_one", "_law_more_here", "_law_fits", "_law_rich", "_law_groups_here", "_law_found", "_law_other", "_law_pair", "_law_history", "_law_bent", "_law_less"]
abbrev P_Lone_right : List Str := ["_law_draw_here", "_law_chain_here", "_law_rows"]
theorem sc_Lone_right : FnScope N_Lone_right P_Lone_right (defScope s_Lone_right) := ⟨rfl, rfl, rfl, by decide +kernel, rfl, by decide +kernel, by decide +kernel⟩
def t_Lone_right (X : Cx) (C CC aSCOPES aTICK : Addr) (sp_classes sp_Lgroups sp_states sp_Classes_shows sp_Lapart sp_Classes_init sp_Lpick sp_Lspeaks : Sp) : TS := (tSeq (tPar 8 9 (tCons (tCall sp_Lgroups [] C8.E0 (tCons (tVar 1) (tCons (tVar 2) tNil))) (tCons (tCall sp_classes [] C8.E0 (tCons (tVar 1) tNil)) tNil)))
  (tSeq (tIfS (tOr (tTest (tOp (rNeU (gs X C)) (tCall sp_states [] C8.E0 (tCons (tVar 1) tNil)) (tVar 2))) (tOr (tTest (tOp (rNeU (gs X C)) (tFld X.K (tVar 9) "classes") (tVar 8))) (tTest (tOp rNotU (tMeth CC "shows" sp_Classes_shows [] C8.E0 (tVar 9) (tCons (tVar 1) tNil)) (tC (.bl true))))))
  (tRet (tC (.bl false)))
  tNext)
  (tSeq (tAsg (tLst tNil) (gName 3))
  (tSeq (tFor (iRng1 (tCons (tCB (rLenU (gs X C)) (tCons (tVar 8) tNil)) tNil)) (gName 4)
  (tFor (iRng2 (tCons (tOp (rAddU (gs X C)) (tVar 4) (tC (.int 1))) (tCons (tCB (rLenU (gs X C)) (tCons (tVar 8) tNil)) tNil))) (gName 10)
  (tSeq (tAsg (tCall sp_Lapart [] C8.E0 (tCons (tVar 1) (tCons (tOp (rIxU (gs X C)) (tOp (rIxU (gs X C)) (tVar 8) (tVar 4)) (tC (.int 0))) (tCons (tOp (rIxU (gs X C)) (tOp (rIxU (gs X C)) (tVar 8) (tVar 10)) (tC (.int 0))) tNil)))) (gName 12))
  (tDrop (tBM X.K "list" rAppend (tVar 3) (tCons (tTup (tCons (tTup (tCons (tVar 4) (tCons (tVar 10) tNil))) (tCons (tVar 12) tNil))) tNil))))))
  (tSeq (tIfS (tOr (tTest (tOp (rNeU (gs X C)) (fun σ H Q => (tFld X.K (tVar 9) "doubts") σ H fun x H1 => rDItems X C x H1 Q) (tVar 3))) (tNot (tB (tMeth CC "shows" sp_Classes_shows [] C8.E0 (tMake CC sp_Classes_init [] C8.E0 (tCons (tVar 8) (tCons (tCB (rDPairs X C) (tCons (tRevL X.K (tVar 3)) tNil)) tNil))) (tCons (tVar 1) tNil)))))
  (tRet (tC (.bl false)))
  tNext)
  (tSeq (tIfS (tTest (tOp (rEqU (gs X C)) (tVar 3) (tLst tNil)))
  (tRet (tNotV (tMeth CC "shows" sp_Classes_shows [] C8.E0 (tMake CC sp_Classes_init [] C8.E0 (tCons (tVar 8) (tCons (tCB (rDPairs X C) (tCons (tLst (tCons (tTup (tCons (tTup (tCons (tC (.int 0)) (tCons (tC (.int 1)) tNil))) (tCons (tTup (tCons (tTup (tCons (tC (.str "ask")) (tCons (tC (.int 0)) tNil))) tNil)) tNil))) tNil)) tNil)) tNil))) (tCons (tVar 1) tNil))))
  tNext)
  (tSeq (tAsg (tCall sp_Lpick [] C8.E0 (tCons (tVar 0) (tCons (tVar 3) tNil))) (gTup X.K 2 (gCons (gName 11) (gCons (gName 12) gNil))))
  (tSeq (tPar 13 14 (tCons (tCB (rDPairs X C) (tCons (tVar 3) tNil)) (tCons (tCB (rDPairs X C) (tCons (tVar 3) tNil)) tNil)))
  (tSeq (tDrop (tBMD X C (rDPop X C) (tVar 14) (tCons (tVar 11) tNil)))
  (tSeq (tAsg (tLst (tCons (tOp (rAddU (gs X C)) (tTup (tCons (tTup (tCons (tC (.str "tick")) tNil)) tNil)) (tVar 12)) (tCons (tOp (rAddU (gs X C)) (tVar 12) (tTup (tCons (tTup (tCons (tC (.str "ask")) (tCons (tC (.int 0)) tNil))) tNil))) (tCons (tTup (tCons (tTup (tCons (tC (.str "ask")) (tCons (tC (.int 0)) tNil))) tNil)) tNil)))) (gName 5))
  (tSeq (tAsg (tCall sp_Lpick [] C8.E0 (tCons (tVar 0) (tCons (tOp (rAddU (gs X C)) (tLst (tCons (tSl (rSlU (gs X C)) (tVar 12) tNoPart (tPart (tUn (rU fun i => .int (-i)) (tC (.int 1))))) tNil)) (tVar 5)) tNil))) (gSub (tVar 13) (tVar 11) (rDSet X C)))
  (tSeq (tPar 4 10 (tCons (tOp (rIxU (gs X C)) (tOp (rIxU (gs X C)) (tVar 8) (tOp (rIxU (gs X C)) (tVar 11) (tC (.int 0)))) (tC (.int 0))) (tCons (tOp (rIxU (gs X C)) (tOp (rIxU (gs X C)) (tVar 8) (tOp (rIxU (gs X C)) (tVar 11) (tC (.int 1)))) (tC (.int 0))) tNil)))
  (tSeq (tAsg (tCall sp_Lspeaks [] C8.E0 (tCons (tVar 1) (tCons (tVar 4) (tCons (tVar 10) (tCons (tOp (rIxU (gs X C)) (tVar 13) (tVar 11)) tNil))))) (gName 6))
  (tSeq (tIfS (tTest (tOp (rNeU (gs X C)) (tMeth CC "shows" sp_Classes_shows [] C8.E0 (tMake CC sp_Classes_init [] C8.E0 (tCons (tVar 8) (tCons (tVar 13) tNil))) (tCons (tVar 1) tNil)) (tVar 6)))
  (tRet (tC (.bl false)))
  tNext)
  (tSeq (tIfS (tOr (tB (tMeth CC "shows" sp_Classes_shows [] C8.E0 (tMake CC sp_Classes_init [] C8.E0 (tCons (tVar 8) (tCons (tVar 14) tNil))) (tCons (tVar 1) tNil))) (tB (tMeth CC "shows" sp_Classes_shows [] C8.E0 (tMake CC sp_Classes_init [] C8.E0 (tCons (tRevL X.K (tVar 8)) (tCons (tCB (rDPairs X C) (tCons (tVar 3) tNil)) tNil))) (tCons (tVar 1) tNil))))
  (tRet (tC (.bl false)))
  tNext)
  (tSeq (tAsg (tCB (rDPairs X C) (tCons (tVar 3) tNil)) (gName 7))
  (tSeq (tAsg (tVar 12) (gSub (tVar 7) (tTup (tCons (tC (.int 0)) (tCons (tCB (rLenU (gs X C)) (tCons (tVar 8) tNil)) tNil))) (rDSet X C)))
  (tSeq (tIfS (tB (tMeth CC "shows" sp_Classes_shows [] C8.E0 (tMake CC sp_Classes_init [] C8.E0 (tCons (tVar 8) (tCons (tVar 7) tNil))) (tCons (tVar 1) tNil)))
  (tRet (tC (.bl false)))
  tNext)
  (tRet (tNotV (tMeth CC "shows" sp_Classes_shows [] C8.E0 (tMake CC sp_Classes_init [] C8.E0 (tCons (tLst (tCons (tVar 2) tNil)) (tCons (tDNew X) tNil))) (tCons (tVar 1) tNil))))))))))))))))))))))
theorem w_Lone_right {P : Program} {w : World} {K : PySem.W.Frag} {mg : Str → Option Value} {base : Heap} {C CC aSCOPES aTICK f : Addr} {cdv : Value} {A : Around} {outer : List Env} {s : Shared} {H : Hp} {E : XK} {sp_classes sp_Lgroups sp_states sp_Classes_shows sp_Lapart sp_Classes_init sp_Lpick sp_Lspeaks : Sp} (F : Ft P w K mg base C CC aSCOPES aTICK) (hr : Room 12 (XX P w K mg base d_Lone_right N_Lone_right f cdv A outer s H E).A) (c_classes : C8.Cal P w K mg base 12 "classes" sp_classes []) (c_Lgroups : C8.Cal P w K mg base 7 "_law_groups" sp_Lgroups []) (c_states : C8.Cal P w K mg base 9 "states" sp_states []) (c_Classes_shows : C8.Met P w K mg base 12 CC "shows" sp_Classes_shows []) (c_Lapart : C8.Cal P w K mg base 6 "_law_apart" sp_Lapart []) (c_Classes_init : C8.Mak P w K mg base 3 "Classes" CC sp_Classes_init []) (c_Lpick : C8.Cal P w K mg base 6 "_law_pick" sp_Lpick []) (c_Lspeaks : C8.Cal P w K mg base 6 "_law_speaks" sp_Lspeaks []) :
    PSs (XX P w K mg base d_Lone_right N_Lone_right f cdv A outer s H E) (defBody s_Lone_right) (t_Lone_right (XX P w K mg base d_Lone_right N_Lone_right f cdv A outer s H E) C CC aSCOPES aTICK sp_classes sp_Lgroups sp_states sp_Classes_shows sp_Lapart sp_Classes_init sp_Lpick sp_Lspeaks) :=
  (pss_cons (ps_par (i := 8) (j := 9) rfl sc_Lone_right.nd rfl rfl (by decide) rfl rfl (pa_cons (C8.pe_c c_Lgroups hr (by decide) rfl (pa_cons (pv 1) (pa_cons (pv 2) pa_nil))) (pa_cons (C8.pe_c c_classes hr (by decide) rfl (pa_cons (pv 1) pa_nil)) pa_nil)) rfl)
  (pss_cons (ps_if (PW.pt (pw_or (pt_cmpR (op_neU hr.units) (C8.pe_c c_states hr (by decide) rfl (pa_cons (pv 1) pa_nil)) (pv 2) (nomark _)) (pw_or (pt_cmpR (op_neU hr.units) (pe_fld (pv 9) rfl) (pv 8) (nomark _)) (pw_or1 (pt_cmpR op_notU (C8.pe_mt c_Classes_shows hr (by decide) (pv 9) (pa_cons (pv 1) pa_nil)) pe_bl (nomark _))))))
  (pss_one (ps_ret pe_bl))
  pss_nil)
  (pss_cons (ps_set (i := 3) sc_Lone_right.nd rfl (by first | exact Or.inl rfl | exact Or.inr rfl) (pe_lst pa_nil))
  (pss_cons (ps_for PassesOwn.never rfl (pi_range1 rfl F.range (pa_cons (pe_callB call_lenU rfl F.len boot_len (pa_cons (pv 8) pa_nil)) pa_nil)) (pg_name (i := 4) sc_Lone_right.nd rfl (by first | exact Or.inl rfl | exact Or.inr rfl))
  (pss_one (ps_for PassesOwn.never rfl (pi_range2 rfl F.range (pa_cons (pe_op op_addU (pv 4) pe_int) (pa_cons (pe_callB call_lenU rfl F.len boot_len (pa_cons (pv 8) pa_nil)) pa_nil))) (pg_name (i := 10) sc_Lone_right.nd rfl (by first | exact Or.inl rfl | exact Or.inr rfl))
  (pss_cons (ps_set (i := 12) sc_Lone_right.nd rfl (by first | exact Or.inl rfl | exact Or.inr rfl) (C8.pe_c c_Lapart hr (by decide) rfl (pa_cons (pv 1) (pa_cons (pe_ix (ix_U hr.units) (pe_ix (ix_U hr.units) (pv 8) (pv 4) (fun _ _ => rfl)) pe_int (fun _ _ => rfl)) (pa_cons (pe_ix (ix_U hr.units) (pe_ix (ix_U hr.units) (pv 8) (pv 10) (fun _ _ => rfl)) pe_int (fun _ _ => rfl)) pa_nil)))))
  (pss_one (ps_expr (pe_bm PySem.F.plainAttrs_list PySem.F.slot_list_append PySem.F.type_list_append mt_append (pv 3) (pa_cons (pe_tup (pa_cons (pe_tup (pa_cons (pv 4) (pa_cons (pv 10) pa_nil))) (pa_cons (pv 12) pa_nil))) pa_nil))))))))
  (pss_cons (ps_if (PW.pt (pw_or (pt_cmpR (op_neU hr.units) (pe_litems rfl (pe_fld (pv 9) rfl) rfl F.list boot_list) (pv 3) (nomark _)) (pw_or1 (pt_not (pt_val (C8.pe_mt c_Classes_shows hr (by decide) (C8.pe_mk c_Classes_init hr (by decide) rfl (pa_cons (pv 8) (pa_cons (pe_callTy (call_dict_prs rfl hr.units) rfl F.dict boot_dict (pa_cons (pe_revL (pv 3)) pa_nil)) pa_nil))) (pa_cons (pv 1) pa_nil)))))))
  (pss_one (ps_ret pe_bl))
  pss_nil)
  (pss_cons (ps_if (pt_cmpR (op_eqU hr.units) (pv 3) (pe_lst pa_nil) (nomark _))
  (pss_one (ps_ret (pe_not (C8.pe_mt c_Classes_shows hr (by decide) (C8.pe_mk c_Classes_init hr (by decide) rfl (pa_cons (pv 8) (pa_cons (pe_callTy (call_dict_prs rfl hr.units) rfl F.dict boot_dict (pa_cons (pe_lst (pa_cons (pe_tup (pa_cons (pe_tup (pa_cons pe_int (pa_cons pe_int pa_nil))) (pa_cons (pe_tup (pa_cons (pe_tup (pa_cons pe_str (pa_cons pe_int pa_nil))) pa_nil)) pa_nil))) pa_nil)) pa_nil)) pa_nil))) (pa_cons (pv 1) pa_nil)))))
  pss_nil)
  (pss_cons (ps_asg (C8.pe_c c_Lpick hr (by decide) rfl (pa_cons (pv 0) (pa_cons (pv 3) pa_nil))) (pg_tup rfl (pgs_cons (pg_name (i := 11) sc_Lone_right.nd rfl (by first | exact Or.inl rfl | exact Or.inr rfl)) (pgs_cons (pg_name (i := 12) sc_Lone_right.nd rfl (by first | exact Or.inl rfl | exact Or.inr rfl)) pgs_nil))))
  (pss_cons (ps_par (i := 13) (j := 14) rfl sc_Lone_right.nd rfl rfl (by decide) rfl rfl (pa_cons (pe_callTy (call_dict_prs rfl hr.units) rfl F.dict boot_dict (pa_cons (pv 3) pa_nil)) (pa_cons (pe_callTy (call_dict_prs rfl hr.units) rfl F.dict boot_dict (pa_cons (pv 3) pa_nil)) pa_nil)) rfl)
  (pss_cons (ps_expr (pe_bmD PySem.F.slot_dict_pop PySem.F.type_dict_pop (mt_dpop hr.units) (pv 14) (pa_cons (pv 11) pa_nil)))
  (pss_cons (ps_set (i := 5) sc_Lone_right.nd rfl (by first | exact Or.inl rfl | exact Or.inr rfl) (pe_lst (pa_cons (pe_op op_addU (pe_tup (pa_cons (pe_tup (pa_cons pe_str pa_nil)) pa_nil)) (pv 12)) (pa_cons (pe_op op_addU (pv 12) (pe_tup (pa_cons (pe_tup (pa_cons pe_str (pa_cons pe_int pa_nil))) pa_nil))) (pa_cons (pe_tup (pa_cons (pe_tup (pa_cons pe_str (pa_cons pe_int pa_nil))) pa_nil)) pa_nil)))))
  (pss_cons (ps_asg (C8.pe_c c_Lpick hr (by decide) rfl (pa_cons (pv 0) (pa_cons (pe_op op_addU (pe_lst (pa_cons (pe_slice sl_U (pv 12) po_none (po_some (pe_un un_neg pe_int))) pa_nil)) (pv 5)) pa_nil))) (pg_sub (pv 13) (pv 11) (set_dct hr.units)))
  (pss_cons (ps_par (i := 4) (j := 10) rfl sc_Lone_right.nd rfl rfl (by decide) rfl rfl (pa_cons (pe_ix (ix_U hr.units) (pe_ix (ix_U hr.units) (pv 8) (pe_ix (ix_U hr.units) (pv 11) pe_int (fun _ _ => rfl)) (fun _ _ => rfl)) pe_int (fun _ _ => rfl)) (pa_cons (pe_ix (ix_U hr.units) (pe_ix (ix_U hr.units) (pv 8) (pe_ix (ix_U hr.units) (pv 11) pe_int (fun _ _ => rfl)) (fun _ _ => rfl)) pe_int (fun _ _ => rfl)) pa_nil)) rfl)
  (pss_cons (ps_set (i := 6) sc_Lone_right.nd rfl (by first | exact Or.inl rfl | exact Or.inr rfl) (C8.pe_c c_Lspeaks hr (by decide) rfl (pa_cons (pv 1) (pa_cons (pv 4) (pa_cons (pv 10) (pa_cons (pe_ix (ix_U hr.units) (pv 13) (pv 11) (fun _ _ => rfl)) pa_nil))))))
  (pss_cons (ps_if (pt_cmpR (op_neU hr.units) (C8.pe_mt c_Classes_shows hr (by decide) (C8.pe_mk c_Classes_init hr (by decide) rfl (pa_cons (pv 8) (pa_cons (pv 13) pa_nil))) (pa_cons (pv 1) pa_nil)) (pv 6) (nomark _))
  (pss_one (ps_ret pe_bl))
  pss_nil)
  (pss_cons (ps_if (PW.pt (pw_or (pt_val (C8.pe_mt c_Classes_shows hr (by decide) (C8.pe_mk c_Classes_init hr (by decide) rfl (pa_cons (pv 8) (pa_cons (pv 14) pa_nil))) (pa_cons (pv 1) pa_nil))) (pw_or1 (pt_val (C8.pe_mt c_Classes_shows hr (by decide) (C8.pe_mk c_Classes_init hr (by decide) rfl (pa_cons (pe_revL (pv 8)) (pa_cons (pe_callTy (call_dict_prs rfl hr.units) rfl F.dict boot_dict (pa_cons (pv 3) pa_nil)) pa_nil))) (pa_cons (pv 1) pa_nil))))))
  (pss_one (ps_ret pe_bl))
  pss_nil)
  (pss_cons (ps_set (i := 7) sc_Lone_right.nd rfl (by first | exact Or.inl rfl | exact Or.inr rfl) (pe_callTy (call_dict_prs rfl hr.units) rfl F.dict boot_dict (pa_cons (pv 3) pa_nil)))
  (pss_cons (ps_asg (pv 12) (pg_sub (pv 7) (pe_tup (pa_cons pe_int (pa_cons (pe_callB call_lenU rfl F.len boot_len (pa_cons (pv 8) pa_nil)) pa_nil))) (set_dct hr.units)))
  (pss_cons (ps_if (pt_val (C8.pe_mt c_Classes_shows hr (by decide) (C8.pe_mk c_Classes_init hr (by decide) rfl (pa_cons (pv 8) (pa_cons (pv 7) pa_nil))) (pa_cons (pv 1) pa_nil)))
  (pss_one (ps_ret pe_bl))
  pss_nil)
  (pss_one (ps_ret (pe_not (C8.pe_mt c_Classes_shows hr (by decide) (C8.pe_mk c_Classes_init hr (by decide) rfl (pa_cons (pe_lst (pa_cons (pv 2) pa_nil)) (pa_cons pe_dnew pa_nil))) (pa_cons (pv 1) pa_nil)))))))))))))))))))))))
def l_Lone_right : Nat := 13
abbrev N_law : List Str := ["_law_script", "_law_by", "_law_draw_here", "_law_chain_here", "_law_rows"]
abbrev P_law : List Str := ["_law_script"]
theorem sc_law : FnScope N_law P_law (defScope s_law) := ⟨rfl, rfl, rfl, by decide +kernel, rfl, by decide +kernel, by decide +kernel⟩
def t_law (X : Cx) (C CC aSCOPES aTICK : Addr) (sp_Lnext sp_Lchain sp_Lreached sp_Lone_right : Sp) : TS := (tSeq (tFor (iRng3 (tCons (tC (.int 0)) (tCons (tCB rMaxU (tCons (tC (.int 1)) (tCons (tCB rMinU (tCons (tC (.int 16)) (tCons (tCB (rLenU (gs X C)) (tCons (tVar 0) tNil)) tNil))) tNil))) (tCons (tC (.int 4)) tNil)))) (gName 1)
  (tSeq (tAsg (tLst (tCons (tVar 0) (tCons (tVar 1) (tCons (tC (.int 0)) tNil)))) (gName 2))
  (tSeq (tAsg (tCall sp_Lchain [] C8.E0 (tCons (tVar 2) (tCons (tC (.int 3)) (tCons (tOp (rAddU (gs X C)) (tC (.int 1)) (tOp (rI CDivW fun i j => .int (i / j)) (tCall sp_Lnext [] C8.E0 (tCons (tVar 2) (tCons (tC (.int 5)) tNil))) (tC (.int 4)))) tNil)))) (gName 3))
  (tSeq (tAsg (tCall sp_Lreached [] C8.E0 (tCons (tVar 3) (tCons (tC (.int 24)) tNil))) (gName 4))
  (tIfS (tAnd (tTest (tOp rNotU (tVar 4) (tC .non))) (tNot (tB (tCall sp_Lone_right [] C8.E0 (tCons (tVar 2) (tCons (tVar 3) (tCons (tVar 4) tNil)))))))
  (tRet (tC (.bl false)))
  tNext)))))
  (tRet (tC (.bl true))))
theorem w_law {P : Program} {w : World} {K : PySem.W.Frag} {mg : Str → Option Value} {base : Heap} {C CC aSCOPES aTICK f : Addr} {cdv : Value} {A : Around} {outer : List Env} {s : Shared} {H : Hp} {E : XK} {sp_Lnext sp_Lchain sp_Lreached sp_Lone_right : Sp} (F : Ft P w K mg base C CC aSCOPES aTICK) (hr : Room 13 (XX P w K mg base d_law N_law f cdv A outer s H E).A) (c_Lnext : C8.Cal P w K mg base 5 "_law_next" sp_Lnext []) (c_Lchain : C8.Cal P w K mg base 8 "_law_chain" sp_Lchain []) (c_Lreached : C8.Cal P w K mg base 6 "_law_reached" sp_Lreached []) (c_Lone_right : C8.Cal P w K mg base 13 "_law_one_right" sp_Lone_right []) :
    PSs (XX P w K mg base d_law N_law f cdv A outer s H E) (defBody s_law) (t_law (XX P w K mg base d_law N_law f cdv A outer s H E) C CC aSCOPES aTICK sp_Lnext sp_Lchain sp_Lreached sp_Lone_right) :=
  (pss_cons (ps_for PassesOwn.never rfl (pi_range3 rfl F.range (pa_cons pe_int (pa_cons (pe_callB (call_max2 rfl) rfl F.max boot_max (pa_cons pe_int (pa_cons (pe_callB (call_min2 rfl) rfl F.min boot_min (pa_cons pe_int (pa_cons (pe_callB call_lenU rfl F.len boot_len (pa_cons (pv 0) pa_nil)) pa_nil))) pa_nil))) (pa_cons pe_int pa_nil)))) (pg_name (i := 1) sc_law.nd rfl (by first | exact Or.inl rfl | exact Or.inr rfl))
  (pss_cons (ps_set (i := 2) sc_law.nd rfl (by first | exact Or.inl rfl | exact Or.inr rfl) (pe_lst (pa_cons (pv 0) (pa_cons (pv 1) (pa_cons pe_int pa_nil)))))
  (pss_cons (ps_set (i := 3) sc_law.nd rfl (by first | exact Or.inl rfl | exact Or.inr rfl) (C8.pe_c c_Lchain hr (by decide) rfl (pa_cons (pv 2) (pa_cons pe_int (pa_cons (pe_op op_addU pe_int (pe_op op_fdivW (C8.pe_c c_Lnext hr (by decide) rfl (pa_cons (pv 2) (pa_cons pe_int pa_nil))) pe_int)) pa_nil)))))
  (pss_cons (ps_set (i := 4) sc_law.nd rfl (by first | exact Or.inl rfl | exact Or.inr rfl) (C8.pe_c c_Lreached hr (by decide) rfl (pa_cons (pv 3) (pa_cons pe_int pa_nil))))
  (pss_one (ps_if (PW.pt (pw_and (pt_cmpR op_notU (pv 4) pe_non (nomark _)) (pw_and1 (pt_not (pt_val (C8.pe_c c_Lone_right hr (by decide) rfl (pa_cons (pv 2) (pa_cons (pv 3) (pa_cons (pv 4) pa_nil)))))))))
  (pss_one (ps_ret pe_bl))
  pss_nil))))))
  (pss_one (ps_ret pe_bl)))
def l_law : Nat := 14
end K3

set_option Elab.async false
set_option linter.all false
set_option maxRecDepth 100000
set_option maxHeartbeats 4000000
/-! The program's chains and machines: what each def answers. -/
namespace K3
open PySem PySem.Spec PyProof.Rows L2 He

/-- what the answers lean on -/
structure Fp (K : PySem.W.Frag) (C CC aS aT : Addr) : Prop where
  cl : Cls K C
  clsCC : Cls K CC
  nRows : NoAttr K C "rows"
  nFolk : NoAttr K C "folk"
  nCostly : NoAttr K C "costly"
  nClasses : NoAttr K CC "classes"
  nDoubts : NoAttr K CC "doubts"
  scopes : ∀ H : Hp, SqT K H aS [.str "all", .str "each"]
  tick : ∀ H : Hp, SqT K H aT [.str "tick"]
theorem Ft.fp {P : Program} {w : World} {K : PySem.W.Frag} {mg : Str → Option Value} {base : Heap} {C CC aS aT : Addr} (F : Ft P w K mg base C CC aS aT) : Fp K C CC aS aT :=
  ⟨F.insC.cl, F.clsCC, F.nRows, F.nFolk, F.nCostly, F.nClasses, F.nDoubts, F.scopes, F.tick⟩

section
variable {X : Cx} {C CC aS aT : Addr} {σ : L2.St} {H : Hp} {te : TE} {c : Ch}
theorem ed_rows (F : Fp X.K C CC aS aT) (h : Ed (gs X C) te σ H (dCh c)) : Ed (gs X C) (tFld X.K te "rows") σ H (.tup (c.rows.map dLk)) :=
  ed_fld (G := gs X C) F.cl F.nRows h fun rv H1 h1 => ⟨rv, by rfl, h1⟩
theorem ed_folk (F : Fp X.K C CC aS aT) (h : Ed (gs X C) te σ H (dCh c)) : Ed (gs X C) (tFld X.K te "folk") σ H (.int (c.folk : Int)) :=
  ed_fld (G := gs X C) F.cl F.nFolk h fun rv H1 h1 => ⟨.int (c.folk : Int), by rfl, .int _⟩
theorem ed_costly (F : Fp X.K C CC aS aT) (h : Ed (gs X C) te σ H (dCh c)) : Ed (gs X C) (tFld X.K te "costly") σ H (.bl c.costly) :=
  ed_fld (G := gs X C) F.cl F.nCostly h fun rv H1 h1 => ⟨.bl c.costly, by rfl, .bl _⟩
theorem ed_TICK (F : Fp X.K C CC aS aT) : Ed (gs X C) (tC (.ref aT)) σ H (dEv .tick) := ed_c fun H1 _ => .tup (F.tick H1) (.cons (.str _) .nil)
theorem ed_SCOPES (F : Fp X.K C CC aS aT) : Ed (gs X C) (tC (.ref aS)) σ H (.tup ((["all", "each"] : List Str).map .str)) := ed_c fun H1 _ => .tup (F.scopes H1) (.cons (.str _) (.cons (.str _) .nil))
end
theorem sk {n : Nat} {x : Str} (h : PyData.strOk x = true) : eqd n (.str x) = true := by cases n <;> exact h
theorem ci (i j : Int) : CmpOk (.int i) (.int j) := .inl ⟨⟨0, by decide, rfl⟩, ⟨0, by decide, rfl⟩⟩
theorem cs {x y : Str} (h : PyData.strOk x = true) (k : PyData.strOk y = true) : CmpOk (.str x) (.str y) := .inl ⟨⟨0, by decide, sk h⟩, ⟨0, by decide, sk k⟩⟩
theorem ce (e f : Ev) : CmpOk (dEv e) (dEv f) := .inl ⟨⟨1, by decide, kyd_eqd _ _ (kyd_ev e)⟩, ⟨1, by decide, kyd_eqd _ _ (kyd_ev f)⟩⟩
theorem sok_all : PyData.strOk "all" = true := by decide +kernel
theorem sok_each : PyData.strOk "each" = true := by decide +kernel
theorem sok_sc (b : Bool) : PyData.strOk (if b then ("each" : Str) else "all") = true := by cases b <;> decide +kernel
theorem D.int_eq {i j : Int} : (D.int i = D.int j) ↔ i = j := ⟨fun h => by cases h; rfl, fun h => by rw [h]⟩
theorem sc_all (b : Bool) : decide (D.str (if b then ("each" : Str) else "all") = D.str "all") = !b := by
  cases b with
  | true => exact decide_eq_false fun h => by injection h with h; exact absurd h (by decide +kernel)
  | false => exact decide_eq_true rfl
theorem sc_each (b : Bool) : decide (D.str (if b then ("each" : Str) else "all") = D.str "each") = b := by
  cases b with
  | true => exact decide_eq_true rfl
  | false => exact decide_eq_false fun h => by injection h with h; exact absurd h (by decide +kernel)
/-! ### doms -/
def m_is_integer (ds : List D) (r : D) : Prop := ∃ v lo hi : Int, ds = [.int v, .int lo, .int hi] ∧ r = .bl (decide (lo ≤ v) && decide (v ≤ hi))
def m_is_word (ds : List D) (r : D) : Prop := ∃ (x : Str) (ws : List Str), ds = [.str x, .tup (ws.map .str)] ∧ r = .bl (decide (x ∈ ws))
def m_is_part (ds : List D) (r : D) : Prop := ∃ p, OkP p ∧ ds = [dPt p] ∧ r = .bl true
def m_is_link (ds : List D) (r : D) : Prop := ∃ l : Lk, OkP l.p ∧ ds = [dLk l] ∧ r = .bl true
def m_check (ds : List D) (r : D) : Prop := ∃ c : Ch, ds = [dCh c] ∧ r = .non
def m_events (ds : List D) (r : D) : Prop := ∃ c : Ch, OkC c ∧ ds = [dCh c] ∧ r = .lst ((evsOf c).map dEv)
def m_first_of (ds : List D) (r : D) : Prop := ∃ p, ds = [dPt p] ∧ r = firstP p
def m_ticked (ds : List D) (r : D) : Prop := ∃ p d, WfP p d ∧ OkP p ∧ ds = [dPt p, d] ∧ r = tickP p d
def m_does_let (ds : List D) (r : D) : Prop := ∃ p d, WfP p d ∧ OkP p ∧ ds = [dPt p, d] ∧ r = .bl (letsP p d)
def m_counted (ds : List D) (r : D) : Prop := ∃ p d, WfP p d ∧ OkP p ∧ ds = [dPt p, d] ∧ r = countP p d
def m_first_state (ds : List D) (r : D) : Prop := ∃ c, OkC c ∧ ds = [dCh c] ∧ r = firstS c
def m_after_tick (ds : List D) (r : D) : Prop := ∃ c d, OkC c ∧ WfS c d ∧ ds = [dCh c, d] ∧ r = tickS c d
def m_lets_at (ds : List D) (r : D) : Prop := ∃ (c : Ch) (d : D) (i k : Nat) (l : Lk), OkC c ∧ WfS c d ∧ c.rows[i]? = some l ∧ k < c.folk ∧ ds = [dCh c, d, .int (i : Int), .int (k : Int)] ∧ r = .bl (letsL l k (dAt (unT d) i))
def m_counted_at (ds : List D) (r : D) : Prop := ∃ (c : Ch) (d : D) (i k : Nat) (l : Lk), OkC c ∧ WfS c d ∧ c.rows[i]? = some l ∧ k < c.folk ∧ ds = [dCh c, d, .int (i : Int), .int (k : Int)] ∧ r = .tup ((unT d).set i (countL l k (dAt (unT d) i)))
def m_answer_at (ds : List D) (r : D) : Prop := ∃ (c : Ch) (d : D) (k : Nat), OkC c ∧ WfS c d ∧ k < c.folk ∧ ds = [dCh c, d, .int (k : Int)] ∧ r = .bl (askS c k d).1
def m_after_ask (ds : List D) (r : D) : Prop := ∃ (c : Ch) (d : D) (k : Nat), OkC c ∧ WfS c d ∧ k < c.folk ∧ ds = [dCh c, d, .int (k : Int)] ∧ r = .tup [.bl (askS c k d).1, (askS c k d).2]
def m_after_event (ds : List D) (r : D) : Prop := ∃ (c : Ch) (d : D) (e : Ev), OkC c ∧ WfS c d ∧ e ∈ evsOf c ∧ ds = [dCh c, d, dEv e] ∧ r = .tup [dAn (step c d e).1, (step c d e).2]

section
variable {X : Cx} {C CC aS aT : Addr} {H : Hp} {vs : List V} {ds : List D} {r : D}
theorem one_of {G : Gs} {H : Hp} {vs : List V} {a : D} (h : DAll G H vs [a]) : ∃ x, vs = [x] ∧ DAt G H x a := by
  cases h with
  | cons h1 h => cases h; exact ⟨_, rfl, h1⟩
theorem three_of {G : Gs} {H : Hp} {vs : List V} {a b c : D} (h : DAll G H vs [a, b, c]) : ∃ x y z, vs = [x, y, z] ∧ DAt G H x a ∧ DAt G H y b ∧ DAt G H z c := by
  cases h with
  | cons h1 h =>
    obtain ⟨y, z, rfl, h2, h3⟩ := two_of h
    exact ⟨_, y, z, rfl, h1, h2, h3⟩
theorem four_of {G : Gs} {H : Hp} {vs : List V} {a b c d : D} (h : DAll G H vs [a, b, c, d]) : ∃ x y z u, vs = [x, y, z, u] ∧ DAt G H x a ∧ DAt G H y b ∧ DAt G H z c ∧ DAt G H u d := by
  cases h with
  | cons h1 h =>
    obtain ⟨y, z, u, rfl, h2, h3, h4⟩ := three_of h
    exact ⟨_, y, z, u, rfl, h1, h2, h3, h4⟩
theorem p_is_integer (hm : m_is_integer ds r) (h : DAll (gs X C) H vs ds) : SRet (gs X C) (t_is_integer X C CC aS aT) (start N_is_integer vs) H r := by
  obtain ⟨v, lo, hi, rfl, rfl⟩ := hm
  obtain ⟨x, y, z, rfl, h_value, h_low, h_high⟩ := three_of h
  exact sr_ret (ed_andV (b := true) (ed_isi (ed_var rfl h_value) rfl rfl) fun _ => (ed_andV (b := true) (ed_notV (ed_isi (b := false) (ed_var rfl h_value) rfl (by decide +kernel))) fun _ => (ed_chain (ed_var rfl h_low) (ed_var rfl h_value) (ed_var rfl h_high) rd_B0 rd_B0)))
theorem p_is_word (hm : m_is_word ds r) (h : DAll (gs X C) H vs ds) : SRet (gs X C) (t_is_word X C CC aS aT) (start N_is_word vs) H r := by
  obtain ⟨x, ws, rfl, rfl⟩ := hm
  obtain ⟨x, y, rfl, h_value, h_words⟩ := two_of h
  exact sr_ret (ed_andV (b := true) (ed_isi (ed_var rfl h_value) rfl rfl) fun _ => (ed_op (ed_var rfl h_value) (ed_var rfl h_words) rd_inW))
theorem p_check (hm : m_check ds r) (h : DAll (gs X C) H vs ds) : SRet (gs X C) (tSeq (t_check_chain X C CC aS aT) (tRet (tC .non))) (start N_check_chain vs) H r := by
  obtain ⟨c, rfl, rfl⟩ := hm
  obtain ⟨x, rfl, h_chain⟩ := one_of h
  exact sr_when (b := false) (Evl.et_not (a := true) (et_B (ed_isC (G := gs X C) (ed_var rfl h_chain)))) (fun e => by cases e) fun _ => sr_ret ed_non
theorem ed_words {σ : L2.St} {H : Hp} {ws : List Str} {ta : TA} (h : EdA (gs X C) ta σ H (ws.map .str)) (hl : ws.length ≤ 100000) : Ed (gs X C) (tTup ta) σ H (.tup (ws.map .str)) := ed_tup h (by rw [List.length_map]; exact hl)
theorem p_is_part (hm : m_is_part ds r) (h : DAll (gs X C) H vs ds) : SRet (gs X C) (t_is_part X C CC aS aT (spD (gs X C) m_is_word) (spD (gs X C) m_is_integer)) (start N_is_part vs) H r := by
  obtain ⟨p, ok, rfl, rfl⟩ := hm
  obtain ⟨x, rfl, h_value⟩ := one_of h
  have w3 : ∀ (v : V) (x : Str) (n s : Int), 1 ≤ n ∧ n ≤ 4 ∧ 1 ≤ s ∧ s ≤ 6 → x ∈ (["bucket", "window", "slide"] : List Str) → DAt (gs X C) H v (.tup [.str x, .int n, .int s]) →
      SRet (gs X C) (t_is_part X C CC aS aT (spD (gs X C) m_is_word) (spD (gs X C) m_is_integer)) (start N_is_part [v]) H (.bl true) := fun v x n s hb hx h_value => by
    refine sr_when (b := false) (Evl.et_is (Evl.et_or (a := false) (Evl.et_not (a := true) (et_B (ed_isi (ed_var rfl h_value) rfl rfl))) fun _ => (et_test (ed_op (ed_cb (eda_cons (ed_var rfl h_value) eda_nil) rc_lenT) (ed_tup (ds := ([2, 3] : List Int).map .int) (eda_cons ed_int (eda_cons ed_int eda_nil)) (by decide)) rd_niI))) (by show (false || !decide ((3 : Int) ∈ ([2, 3] : List Int))) = false; decide)) (fun e => by cases e) fun _ => ?_
    refine sr_when (b := false) (Evl.et_is (et_test (ed_op (ed_cb (eda_cons (ed_var rfl h_value) eda_nil) rc_lenT) ed_int (rd_eq (ci _ _)))) (decide_eq_false fun e => by injection e with e; exact absurd e (by show ¬ (3 : Int) = 2; decide))) (fun e => by cases e) fun _ => ?_
    refine sr_when (b := false) (Evl.et_not (a := true) (et_B (ed_call (eda_cons (ed_op (ed_var rfl h_value) ed_int (rd_ixT rfl)) (eda_cons (ed_words (ws := ["bucket", "window", "slide"]) (eda_cons ed_str (eda_cons ed_str (eda_cons ed_str eda_nil))) (by decide)) eda_nil)) ⟨x, _, rfl, by rw [decide_eq_true hx]⟩))) (fun e => by cases e) fun _ => ?_
    refine sr_ret (Ed.is (ed_andV (b := true) (c := true) (ed_call (eda_cons (ed_op (ed_var rfl h_value) ed_int (rd_ixT rfl)) (eda_cons ed_int (eda_cons ed_int eda_nil))) ⟨n, 1, 4, rfl, ?_⟩) fun _ => (ed_call (eda_cons (ed_op (ed_var rfl h_value) ed_int (rd_ixT rfl)) (eda_cons ed_int (eda_cons ed_int eda_nil))) ⟨s, 1, 6, rfl, ?_⟩)) rfl)
    · rw [decide_eq_true hb.1, decide_eq_true hb.2.1]; rfl
    · rw [decide_eq_true hb.2.2.1, decide_eq_true hb.2.2.2]; rfl
  cases p with
  | bucket n s => exact w3 _ _ n s ok (by decide +kernel) h_value
  | window n s => exact w3 _ _ n s ok (by decide +kernel) h_value
  | slide n s => exact w3 _ _ n s ok (by decide +kernel) h_value
  | gap s =>
    refine sr_when (b := false) (Evl.et_is (Evl.et_or (a := false) (Evl.et_not (a := true) (et_B (ed_isi (ed_var rfl h_value) rfl rfl))) fun _ => (et_test (ed_op (ed_cb (eda_cons (ed_var rfl h_value) eda_nil) rc_lenT) (ed_tup (ds := ([2, 3] : List Int).map .int) (eda_cons ed_int (eda_cons ed_int eda_nil)) (by decide)) rd_niI))) (by show (false || !decide ((2 : Int) ∈ ([2, 3] : List Int))) = false; decide)) (fun e => by cases e) fun _ => ?_
    refine sr_when (b := true) (Evl.et_is (et_test (ed_op (ed_cb (eda_cons (ed_var rfl h_value) eda_nil) rc_lenT) ed_int (rd_eq (ci _ _)))) (decide_eq_true rfl)) (fun _ => ?_) fun e => by cases e
    refine sr_ret (Ed.is (ed_andV (b := true) (c := true) (ed_call (eda_cons (ed_op (ed_var rfl h_value) ed_int (rd_ixT rfl)) (eda_cons (ed_words (ws := ["gap"]) (eda_cons ed_str eda_nil) (by decide)) eda_nil)) ⟨"gap", _, rfl, by rw [decide_eq_true (by decide +kernel)]⟩) fun _ => (ed_call (eda_cons (ed_op (ed_var rfl h_value) ed_int (rd_ixT rfl)) (eda_cons ed_int (eda_cons ed_int eda_nil))) ⟨s, 1, 6, rfl, ?_⟩)) rfl)
    rw [decide_eq_true ok.1, decide_eq_true ok.2]; rfl
theorem p_is_link (F : Fp X.K C CC aS aT) (hm : m_is_link ds r) (h : DAll (gs X C) H vs ds) : SRet (gs X C) (t_is_link X C CC aS aT (spD (gs X C) m_is_word) (spD (gs X C) m_is_part)) (start N_is_link vs) H r := by
  obtain ⟨l, ok, rfl, rfl⟩ := hm
  obtain ⟨x, rfl, h_value⟩ := one_of h
  refine sr_ret (ed_andV (b := true) (c := true) (ed_isi (ed_var rfl h_value) rfl rfl) fun _ => (ed_andV (b := true) (c := true) (Ed.is (ed_op (ed_cb (eda_cons (ed_var rfl h_value) eda_nil) rc_lenT) ed_int (rd_eq (ci _ _))) (congrArg D.bl (decide_eq_true rfl))) fun _ =>
    (ed_andV (b := true) (c := true) (ed_call (eda_cons (ed_op (ed_var rfl h_value) ed_int (rd_ixT rfl)) (eda_cons (ed_SCOPES F) eda_nil)) ⟨_, _, rfl, ?_⟩) fun _ => (ed_call (eda_cons (ed_op (ed_var rfl h_value) ed_int (rd_ixT rfl)) eda_nil) ⟨l.p, ok, rfl, rfl⟩))))
  rw [decide_eq_true]
  cases l.each <;> decide +kernel
end
end K3

set_option Elab.async false
set_option linter.all false
set_option maxRecDepth 100000
set_option maxHeartbeats 4000000
/-! Slices, loops that append. -/
namespace K3
open PySem PySem.Spec PyProof.Rows L2 He

def EdP (to : TO) (σ : L2.St) (H : Hp) (o : Option Int) : Prop := ∀ H1, Same H H1 → ∀ Q : Option Int → Hp → Prop, (∀ H2, Same H1 H2 → Q o H2) → to σ H1 Q
def cutD {α : Type} (ds : List α) (lo hi : Option Int) : List α := (ds.drop (HT.sIx ds.length 0 lo)).take (HT.sIx ds.length ds.length hi - HT.sIx ds.length 0 lo)
section
variable {G : Gs} {σ : L2.St} {H : Hp} {te ta tb tl : TE} {d : D} {ds res : List D}
theorem edp_none : EdP tNoPart σ H none := fun H1 _ Q q => q H1 (Same.refl H1)
theorem edp_some {i : Int} (h : Ed G te σ H (.int i)) : EdP (tPart te) σ H (some i) := fun H1 s Q q => h H1 s _ fun v H2 s2 dv => by
  cases dv; exact ⟨i, rfl, q H2 s2⟩
theorem cut_len {H : Hp} {vs : List V} {lo hi : Option Int} (h : DAll G H vs ds) : DAll G H (cutV vs lo hi) (cutD ds lo hi) := by
  unfold cutV cutD
  rw [h.length]
  exact (h.drop _).take _
theorem cut_whole {vs : List V} {lo hi : Option Int} (h : HT.sIx vs.length 0 lo = 0 ∧ HT.sIx vs.length vs.length hi = vs.length) : cutV vs lo hi = vs := by
  unfold cutV
  rw [h.1, h.2, List.drop_zero, Nat.sub_zero, List.take_length]
theorem ed_slT {lo hi : Option Int} {t1 t2 : TO} (h : Ed G te σ H (.tup ds)) (h1 : EdP t1 σ H lo) (h2 : EdP t2 σ H hi) : Ed G (tSl (rSlU G) te t1 t2) σ H (.tup (cutD ds lo hi)) := fun H1 s Q q =>
  h H1 s _ fun v H2 s2 dv => h1 H2 (s.trans s2) _ fun H3 s3 => h2 H3 (s.trans (s2.trans s3)) _ fun H4 s4 => .inl (by
    have dv4 := dv.mn (Same.trans s3 s4)
    cases dv4 with
    | tup k1 k2 =>
      refine ⟨_, _, rfl, k1, fun hw => ?_, fun hw p hp => ?_⟩
      · refine q _ H4 (s2.trans (s3.trans s4)) (.tup k1 ?_)
        have := cut_len (lo := lo) (hi := hi) k2
        rw [cut_whole hw] at this
        exact this
      · exact q _ _ ((s2.trans (s3.trans s4)).trans (.new hp)) (.tup (.inl (.inl upd_same)) ((cut_len k2).mn (.new hp))))
theorem cut_to {α : Type} {ds : List α} {k : Nat} (h : k ≤ ds.length) : cutD ds none (some (k : Int)) = ds.take k := by
  unfold cutD
  have e1 : HT.sIx ds.length 0 none = 0 := rfl
  have e2 : HT.sIx ds.length ds.length (some (k : Int)) = k := by
    show (if (k : Int) < 0 then ((k : Int) + (ds.length : Int)).toNat else min (k : Int).toNat ds.length) = k
    rw [if_neg (by omega), Int.toNat_natCast]; omega
  rw [e1, e2, List.drop_zero, Nat.sub_zero]
theorem cut_from {α : Type} {ds : List α} {k : Nat} (h : k ≤ ds.length) : cutD ds (some (k : Int)) none = ds.drop k := by
  unfold cutD
  have e1 : HT.sIx ds.length ds.length none = ds.length := rfl
  have e2 : HT.sIx ds.length 0 (some (k : Int)) = k := by
    show (if (k : Int) < 0 then ((k : Int) + (ds.length : Int)).toNat else min (k : Int).toNat ds.length) = k
    rw [if_neg (by omega), Int.toNat_natCast]; omega
  rw [e1, e2, List.take_of_length_le (by rw [List.length_drop]; omega)]
theorem cut_last {α : Type} {ds : List α} : cutD ds none (some (-1)) = ds.dropLast := by
  unfold cutD
  have e1 : HT.sIx ds.length 0 none = 0 := rfl
  have e2 : HT.sIx ds.length ds.length (some (-1)) = ds.length - 1 := by
    show (if (-1 : Int) < 0 then ((-1 : Int) + (ds.length : Int)).toNat else min (-1 : Int).toNat ds.length) = _
    rw [if_pos (by omega)]; omega
  rw [e1, e2, List.drop_zero, Nat.sub_zero, List.dropLast_eq_take]
theorem set_cut {α : Type} {ds : List α} {k : Nat} {x : α} (h : k < ds.length) : ds.take k ++ (x :: ds.drop (k + 1)) = ds.set k x := (List.set_eq_take_append_cons_drop ▸ by rw [if_pos h])

/-! ### loops that append -/
theorem app_body {li : Nat} {l : Addr} {acc : List V} {Dd : Ends} (hσ : σ[li]? = some (some (.ref l))) (hl : H l = some (.lst acc)) (hz : acc.length < 100000) (h : Ed G te σ H d) (k : ∀ v H2, Same H H2 → DAt G H2 v d → Dd.nx σ (upd H2 l (.lst (acc ++ [v])))) :
    tDrop (tBM G.K "list" rAppend (tVar li) (tCons te tNil)) Dd σ H :=
  ⟨_, hσ, .inl ⟨rfl, _, Evl.sq_of hl⟩, h H (Same.refl H) _ fun v H2 s2 dv => ⟨l, acc, v, rfl, rfl, s2 l _ hl, Evl.sz_lt hz, k v H2 s2 dv⟩⟩
/-- what stands behind i turns -/
def AInv (G : Gs) (Good : L2.St → Prop) (H0 H2 : Hp) (l : Addr) (rs : List D) (σ' : L2.St) (H' : Hp) : Prop := Good σ' ∧ Same H0 H' ∧ Le H2 H' ∧ ∃ acc, H' l = some (.lst acc) ∧ DAll G H' acc rs
theorem ainv_step {Good : L2.St → Prop} {H0 H2 H' H3 : Hp} {l : Addr} {rs : List D} {acc : List V} {r : D} {v : V} {σ2 : L2.St} (n : H0 l = none) (im : immAll (rs ++ [r]) = true) (a : Same H0 H') (b : Le H2 H') (c : H' l = some (.lst acc)) (e : DAll G H' acc rs) (g : Good σ2) (s : Same H' H3) (dv : DAt G H3 v r) :
    AInv G Good H0 H2 l (rs ++ [r]) σ2 (upd H3 l (.lst (acc ++ [v]))) := by
  have e3 : H3 l = some (.lst acc) := s l _ c
  have le : Le H3 (upd H3 l (.lst (acc ++ [v]))) := .wr fun u e f => by rw [e3] at e; cases e; exact f
  exact ⟨g, (a.trans s).mut n, b.trans ((Le.of s).trans le), _, upd_same, ((e.mn s).snoc dv).lm im le⟩
theorem immAll_take {ds : List D} (h : immAll ds = true) (n : Nat) : immAll (ds.take n) = true := immAll_iff.mpr fun d hd => immAll_iff.mp h d (List.mem_of_mem_take hd)
theorem for_appT {g : TG} {tb : TS} {l : Addr} {H0 : Hp} {Dd : Ends} (Good : L2.St → Prop) (hres : immAll res = true) (him : immAll ds = true) (hlen : res.length = ds.length) (hz : ds.length ≤ 40000)
    (ht : Ed G tl σ H (.tup ds)) (hs : Same H0 H) (n : H0 l = none) (hl : H l = some (.lst [])) (hg : Good σ)
    (turn : ∀ (i : Nat) d r x σ' H' acc (Nx : L2.St → Hp → Prop), ds[i]? = some d → res[i]? = some r → Good σ' → Same H0 H' → DAt G H' x d → H' l = some (.lst acc) → acc.length < 100000 →
      (∀ σ2 v H2, Good σ2 → Same H' H2 → DAt G H2 v r → Nx σ2 (upd H2 l (.lst (acc ++ [v])))) → g x σ' H' fun σ2 H2 => tb { Dd with nx := Nx, ct := Nx, bk := Dd.nx } σ2 H2)
    (done : ∀ σ' H' acc, Good σ' → Same H0 H' → H' l = some (.lst acc) → DAll G H' acc res → Dd.nx σ' H') : tFor (iTup G.K tl) g tb Dd σ H :=
  ht H (Same.refl H) _ fun v H2 s2 dv => by
    cases dv with
    | @tup a xs _ h1 h2 =>
      refine ⟨a, rfl, ⟨xs, h1⟩, for_tup (xs := xs) (fun i => AInv G Good H0 H2 l (res.take i)) ⟨hg, hs.trans s2, Le.refl H2, [], s2 l _ hl, by rw [List.take_zero]; exact .nil⟩ (fun i σ' H' _ p => p.2.2.1.tp h1) (fun i x σ' H' hx p => ?_) (fun σ' H' p => ?_)⟩
      · obtain ⟨g0, p1, p2, acc, p3, p4⟩ := p
        obtain ⟨d, hd, dx⟩ := h2.getV hx
        have hi := (List.getElem?_eq_some_iff.mp hd).1
        have hr : res[i]? = some (res[i]'(by omega)) := List.getElem?_eq_getElem (by omega)
        refine turn i d _ x σ' H' acc _ hd hr g0 p1 (dx.lm (immAll_iff.mp him d (List.mem_of_getElem? hd)) p2) p3 (by rw [p4.length, List.length_take]; omega) fun σ2 v H3 g2 s3 dv => ?_
        have et : res.take (i + 1) = res.take i ++ [res[i]'(by omega)] := by rw [List.take_add_one, hr]; rfl
        show AInv G Good H0 H2 l (res.take (i + 1)) σ2 _
        rw [et]
        exact ainv_step n (by rw [← et]; exact immAll_take hres _) p1 p2 p3 p4 g2 s3 dv
      · obtain ⟨g0, p1, p2, acc, p3, p4⟩ := p
        rw [h2.length, ← hlen, List.take_length] at p4
        exact done σ' H' acc g0 p1 p3 p4
theorem for_appZ {g : TG} {tb : TS} {ts : TA} {l : Addr} {H0 : Hp} {Dd : Ends} {es : List D} (Good : L2.St → Prop) (hres : immAll res = true) (him : immAll ds = true) (hie : immAll es = true) (hlen : res.length = ds.length) (hlen2 : es.length = ds.length) (hz : ds.length ≤ 40000)
    (ht : EdA G ts σ H [.tup ds, .tup es]) (hs : Same H0 H) (n : H0 l = none) (hl : H l = some (.lst [])) (hg : Good σ)
    (turn : ∀ (i : Nat) d e r x σ' H' acc (Nx : L2.St → Hp → Prop), ds[i]? = some d → es[i]? = some e → res[i]? = some r → Good σ' → Same H0 H' → DAt G H' x (.tup [d, e]) → H' l = some (.lst acc) → acc.length < 100000 →
      (∀ σ2 v H2, Good σ2 → Same H' H2 → DAt G H2 v r → Nx σ2 (upd H2 l (.lst (acc ++ [v])))) → g x σ' H' fun σ2 H2 => tb { Dd with nx := Nx, ct := Nx, bk := Dd.nx } σ2 H2)
    (done : ∀ σ' H' acc, Good σ' → Same H0 H' → H' l = some (.lst acc) → DAll G H' acc res → Dd.nx σ' H') : tFor (RZ.iZipA G.K ts) g tb Dd σ H :=
  ht H (Same.refl H) _ fun vs H2 s2 da => by
    obtain ⟨u, w, rfl, du, dw⟩ := two_of da
    cases du with
    | @tup a xs _ h1 h2 =>
      cases dw with
      | @tup b ys _ k1 k2 =>
        refine ⟨a, b, xs, ys, rfl, .inr ⟨h1, k1, RZ.for_zipT (by rw [h2.length, k2.length, hlen2]) (fun i => AInv G Good H0 H2 l (res.take i)) ⟨hg, hs.trans s2, Le.refl H2, [], s2 l _ hl, by rw [List.take_zero]; exact .nil⟩ (fun i σ' H' p => ⟨p.2.2.1.tp h1, p.2.2.1.tp k1⟩) (fun i x y T σ' H' hx hy p nT => ?_) (fun σ' H' p => ?_)⟩⟩
        · obtain ⟨g0, p1, p2, acc, p3, p4⟩ := p
          obtain ⟨d, hd, dx⟩ := h2.getV hx
          obtain ⟨e, he, dy⟩ := k2.getV hy
          have hi := (List.getElem?_eq_some_iff.mp hd).1
          have hr : res[i]? = some (res[i]'(by omega)) := List.getElem?_eq_getElem (by omega)
          have sT : Same H' (upd H' T (.tup [x, y])) := .new nT
          refine turn i d e _ (.ref T) σ' _ acc _ hd he hr g0 (p1.trans sT) (.tup (.inl (.inl upd_same)) (.cons ((dx.lm (immAll_iff.mp him d (List.mem_of_getElem? hd)) p2).mn sT) (.cons ((dy.lm (immAll_iff.mp hie e (List.mem_of_getElem? he)) p2).mn sT) .nil))) (sT l _ p3) (by rw [p4.length, List.length_take]; omega) fun σ2 v H3 g2 s3 dv => ?_
          have et : res.take (i + 1) = res.take i ++ [res[i]'(by omega)] := by rw [List.take_add_one, hr]; rfl
          show AInv G Good H0 H2 l (res.take (i + 1)) σ2 _
          rw [et]
          exact ainv_step n (by rw [← et]; exact immAll_take hres _) (p1.trans sT) (p2.trans (.of sT)) (sT l _ p3) (p4.mn sT) g2 s3 dv
        · obtain ⟨g0, p1, p2, acc, p3, p4⟩ := p
          rw [h2.length, ← hlen, List.take_length] at p4
          exact done σ' H' acc g0 p1 p3 p4
/-- a pair taken apart -/
theorem g_pair {i j : Nat} {x : V} {d e : D} {Q : L2.St → Hp → Prop} (h : DAt G H x (.tup [d, e])) (k : ∀ u v, DAt G H u d → DAt G H v e → Q ((σ.set i (some u)).set j (some v)) H) : gTup G.K 2 (gCons (gName i) (gCons (gName j) gNil)) x σ H Q := by
  cases h with
  | tup h1 h2 =>
    obtain ⟨u, v, rfl, du, dv⟩ := two_of h2
    exact ⟨_, _, rfl, h1, rfl, u, _, rfl, v, _, rfl, rfl, k u v du dv⟩
theorem g_pair3 {i j m : Nat} {x : V} {d e f : D} {Q : L2.St → Hp → Prop} (h : DAt G H x (.tup [.tup [d, e], f])) (k : ∀ u v w, DAt G H u d → DAt G H v e → DAt G H w f → Q (((σ.set i (some u)).set j (some v)).set m (some w)) H) :
    gTup G.K 2 (gCons (gTup G.K 2 (gCons (gName i) (gCons (gName j) gNil))) (gCons (gName m) gNil)) x σ H Q := by
  cases h with
  | tup h1 h2 =>
    obtain ⟨y, w, rfl, dy, dw⟩ := two_of h2
    exact ⟨_, _, rfl, h1, rfl, y, _, rfl, g_pair dy fun u v du dv => ⟨w, _, rfl, rfl, k u v w du dv dw⟩⟩
end
end K3

set_option Elab.async false
set_option linter.all false
set_option maxRecDepth 100000
set_option maxHeartbeats 4000000
/-! The program's machines: what each def answers. -/
namespace K3
open PySem PySem.Spec PyProof.Rows L2 He
section
variable {X : Cx} {C CC aS aT : Addr} {H : Hp} {vs : List V} {ds : List D} {r : D}
theorem ne_wb : ("window" : Str) ≠ "bucket" := by decide +kernel
theorem ne_sb : ("slide" : Str) ≠ "bucket" := by decide +kernel
theorem ne_sw : ("slide" : Str) ≠ "window" := by decide +kernel
theorem ne_gb : ("gap" : Str) ≠ "bucket" := by decide +kernel
theorem ne_gw : ("gap" : Str) ≠ "window" := by decide +kernel
theorem ne_gs : ("gap" : Str) ≠ "slide" := by decide +kernel
theorem p_events (F : Fp X.K C CC aS aT) (hm : m_events ds r) (h : DAll (gs X C) H vs ds) : SRet (gs X C) (t_events_of X C CC aS aT) (start N_events_of vs) H r := by
  obtain ⟨c, ok, rfl, rfl⟩ := hm
  obtain ⟨x, rfl, h_chain⟩ := one_of h
  have hf := ok.f2
  have e : (evsOf c).map dEv = dEv .tick :: (((List.range c.folk).map fun i => dEv (.ask i)) ++ []) := by
    rw [List.append_nil]
    unfold evsOf
    rw [List.map_cons, List.map_map]; rfl
  rw [e]
  refine sr_ret (EdN.ed (edn_lst (eda_cons (ed_TICK F) (eda_starL (G := gs X C) (EdN.ed (ed_lcR (G := gs X C) (n := c.folk) (fun i => dEv (.ask i)) (by omega) (eda_cons (ed_folk F (ed_var rfl h_chain)) eda_nil) (fun i _ => rfl) (fun i hi H1 s => ?_))) eda_nil)) (by simp; omega)))
  refine ct_name (r := some (dEv (.ask i))) rfl et_yes fun d e => ?_
  cases e
  exact ed_tup (eda_cons ed_str (eda_cons (ed_var rfl (.int _)) eda_nil)) (by show 2 ≤ 100000; decide)
theorem p_first_of (hm : m_first_of ds r) (h : DAll (gs X C) H vs ds) : SRet (gs X C) (t_first_of X C CC aS aT) (start N_first_of vs) H r := by
  obtain ⟨p, rfl, rfl⟩ := hm
  obtain ⟨x, rfl, h_part⟩ := one_of h
  cases p with
  | bucket n s => exact sr_seq (sr_match (ed_op (ed_var rfl h_part) ed_int (rd_ixT rfl)) (sr_hit (sr_ret (ed_tup (eda_cons (ed_op (ed_var rfl h_part) ed_int (rd_ixT rfl)) (eda_cons ed_int eda_nil)) (by show 2 ≤ 100000; decide)))))
  | window n s => exact sr_seq (sr_match (ed_op (ed_var rfl h_part) ed_int (rd_ixT rfl)) (sr_miss ne_wb (sr_hit (sr_ret (ed_tup (eda_cons ed_int (eda_cons ed_int eda_nil)) (by show 2 ≤ 100000; decide))))))
  | slide n s => exact sr_seq (sr_match (ed_op (ed_var rfl h_part) ed_int (rd_ixT rfl)) (sr_miss ne_sb (sr_miss ne_sw (sr_hit (sr_ret (ed_tup eda_nil (by show 0 ≤ 100000; decide)))))))
  | gap s => exact sr_matchN (ed_op (ed_var rfl h_part) ed_int (rd_ixT rfl)) (miss_nx ne_gb (miss_nx ne_gw (miss_nx ne_gs fun _ _ _ q => q))) (sr_ret ed_int)
theorem dec_int {i j : Int} : decide (D.int i = D.int j) = decide (i = j) := decB D.int_eq
theorem p_ticked (hm : m_ticked ds r) (h : DAll (gs X C) H vs ds) : SRet (gs X C) (t_ticked X C CC aS aT) (start N_ticked vs) H r := by
  obtain ⟨p, d, wf, ok, rfl, rfl⟩ := hm
  obtain ⟨x, y, rfl, h_part, h_value⟩ := two_of h
  cases p with
  | bucket n s =>
    obtain ⟨a, b, rfl, w1, w2, w3, w4⟩ := wf
    refine sr_seq (sr_match (ed_op (ed_var rfl h_part) ed_int (rd_ixT rfl)) (sr_hit (sr_asg2 (G := gs X C) (ed_var rfl h_value) fun u v H1 s1 h_tokens h_since => sr_ret ?_)))
    have h_part := h_part.mn s1
    refine ed_if (b := decide (b + 1 = s)) (Evl.et_is (et_test (ed_op (ed_op (ed_var rfl h_since) ed_int rd_add) (ed_op (ed_var rfl h_part) ed_int (rd_ixT rfl)) (rd_eq (ci _ _)))) dec_int) (fun hb => ?_) (fun hb => ?_)
    · have e : tickP (.bucket n s) (.tup [.int a, .int b]) = .tup [.int (if a + 1 < n then a + 1 else n), .int 0] := if_pos (of_decide_eq_true hb)
      rw [e]
      exact ed_tup (eda_cons (ed_cb (eda_cons (ed_op (ed_var rfl h_part) ed_int (rd_ixT rfl)) (eda_cons (ed_op (ed_var rfl h_tokens) ed_int rd_add) eda_nil)) rc_min2) (eda_cons ed_int eda_nil)) (by show 2 ≤ 100000; decide)
    · have e : tickP (.bucket n s) (.tup [.int a, .int b]) = .tup [.int a, .int (b + 1)] := if_neg (of_decide_eq_false hb)
      rw [e]
      exact ed_tup (eda_cons (ed_var rfl h_tokens) (eda_cons (ed_op (ed_var rfl h_since) ed_int rd_add) eda_nil)) (by show 2 ≤ 100000; decide)
  | window n s =>
    obtain ⟨a, b, rfl, w1, w2, w3, w4⟩ := wf
    refine sr_seq (sr_match (ed_op (ed_var rfl h_part) ed_int (rd_ixT rfl)) (sr_miss ne_wb (sr_hit (sr_asg2 (G := gs X C) (ed_var rfl h_value) fun u v H1 s1 h_count h_since => sr_ret ?_))))
    have h_part := h_part.mn s1
    refine ed_if (b := decide (b + 1 = s)) (Evl.et_is (et_test (ed_op (ed_op (ed_var rfl h_since) ed_int rd_add) (ed_op (ed_var rfl h_part) ed_int (rd_ixT rfl)) (rd_eq (ci _ _)))) dec_int) (fun hb => ?_) (fun hb => ?_)
    · have e : tickP (.window n s) (.tup [.int a, .int b]) = .tup [.int 0, .int 0] := if_pos (of_decide_eq_true hb)
      rw [e]
      exact ed_tup (eda_cons ed_int (eda_cons ed_int eda_nil)) (by show 2 ≤ 100000; decide)
    · have e : tickP (.window n s) (.tup [.int a, .int b]) = .tup [.int a, .int (b + 1)] := if_neg (of_decide_eq_false hb)
      rw [e]
      exact ed_tup (eda_cons (ed_var rfl h_count) (eda_cons (ed_op (ed_var rfl h_since) ed_int rd_add) eda_nil)) (by show 2 ≤ 100000; decide)
  | slide n s =>
    obtain ⟨as, rfl, w1, w2⟩ := wf
    obtain ⟨o1, o2, o3, o4⟩ := ok
    refine sr_seq (sr_match (ed_op (ed_var rfl h_part) ed_int (rd_ixT rfl)) (sr_miss ne_sb (sr_miss ne_sw (sr_hit (sr_ret (ed_cb (eda_cons (EdN.ed (ed_lcT (G := gs X C) (ageUp s) (by rw [List.length_map]; omega) (ed_var rfl h_value) ?_ ?_ ?_)) eda_nil) rc_tupL))))))
    · exact immAll_iff.mpr fun d hd => by obtain ⟨a, _, rfl⟩ := List.mem_map.mp hd; rfl
    · intro d hd r hr
      obtain ⟨a, _, rfl⟩ := List.mem_map.mp hd
      have hr : (if a + 1 < s then some (D.int (a + 1)) else none) = some r := hr
      split at hr
      · cases hr; rfl
      · cases hr
    · intro d hd x H1 s1 dx
      obtain ⟨a, _, rfl⟩ := List.mem_map.mp hd
      have h_part := h_part.mn s1
      refine ct_name rfl (Evl.et_is (et_test (ed_op (ed_op (ed_var rfl dx) ed_int rd_add) (ed_op (ed_var rfl h_part) ed_int (rd_ixT rfl)) rd_B0)) ?_) fun d e => ?_
      · show decide (a + 1 < s) = (if a + 1 < s then some (D.int (a + 1)) else none).isSome
        split
        · exact decide_eq_true ‹_›
        · exact decide_eq_false ‹_›
      · have e : (if a + 1 < s then some (D.int (a + 1)) else none) = some d := e
        split at e
        · cases e
          exact ed_op (ed_var rfl dx) ed_int rd_add
        · cases e
  | gap s =>
    obtain ⟨a, rfl, w1, w2⟩ := wf
    refine sr_matchN (ed_op (ed_var rfl h_part) ed_int (rd_ixT rfl)) (miss_nx ne_gb (miss_nx ne_gw (miss_nx ne_gs fun _ _ _ q => q))) (sr_ret (Ed.is (ed_cb (eda_cons ed_int (eda_cons (ed_op (ed_var rfl h_value) ed_int rd_I0) eda_nil)) rc_max2) ?_))
    show D.int _ = D.int (if 0 < a then a - 1 else 0)
    congr 1
    split <;> split <;> omega
theorem p_does_let (hm : m_does_let ds r) (h : DAll (gs X C) H vs ds) : SRet (gs X C) (t_does_let X C CC aS aT) (start N_does_let vs) H r := by
  obtain ⟨p, d, wf, ok, rfl, rfl⟩ := hm
  obtain ⟨x, y, rfl, h_part, h_value⟩ := two_of h
  cases p with
  | bucket n s =>
    obtain ⟨a, b, rfl, w1, w2, w3, w4⟩ := wf
    exact sr_seq (sr_match (ed_op (ed_var rfl h_part) ed_int (rd_ixT rfl)) (sr_hit (sr_ret (ed_op (ed_op (ed_var rfl h_value) ed_int (rd_ixT rfl)) ed_int rd_B0))))
  | window n s =>
    obtain ⟨a, b, rfl, w1, w2, w3, w4⟩ := wf
    exact sr_seq (sr_match (ed_op (ed_var rfl h_part) ed_int (rd_ixT rfl)) (sr_miss ne_wb (sr_hit (sr_ret (ed_op (ed_op (ed_var rfl h_value) ed_int (rd_ixT rfl)) (ed_op (ed_var rfl h_part) ed_int (rd_ixT rfl)) rd_B0)))))
  | slide n s =>
    obtain ⟨as, rfl, w1, w2⟩ := wf
    exact sr_seq (sr_match (ed_op (ed_var rfl h_part) ed_int (rd_ixT rfl)) (sr_miss ne_sb (sr_miss ne_sw (sr_hit (sr_ret (ed_op (ed_cb (eda_cons (ed_var rfl h_value) eda_nil) rc_lenT) (ed_op (ed_var rfl h_part) ed_int (rd_ixT rfl)) rd_B0))))))
  | gap s =>
    obtain ⟨a, rfl, w1, w2⟩ := wf
    exact sr_matchN (ed_op (ed_var rfl h_part) ed_int (rd_ixT rfl)) (miss_nx ne_gb (miss_nx ne_gw (miss_nx ne_gs fun _ _ _ q => q))) (sr_ret (Ed.is (ed_op (ed_var rfl h_value) ed_int (rd_eq (ci _ _))) (congrArg D.bl dec_int)))
theorem p_counted (hm : m_counted ds r) (h : DAll (gs X C) H vs ds) : SRet (gs X C) (t_counted X C CC aS aT) (start N_counted vs) H r := by
  obtain ⟨p, d, wf, ok, rfl, rfl⟩ := hm
  obtain ⟨x, y, rfl, h_part, h_value⟩ := two_of h
  cases p with
  | bucket n s =>
    obtain ⟨a, b, rfl, w1, w2, w3, w4⟩ := wf
    exact sr_seq (sr_match (ed_op (ed_var rfl h_part) ed_int (rd_ixT rfl)) (sr_hit (sr_ret (ed_tup (eda_cons (ed_op (ed_op (ed_var rfl h_value) ed_int (rd_ixT rfl)) ed_int rd_I0) (eda_cons (ed_op (ed_var rfl h_value) ed_int (rd_ixT rfl)) eda_nil)) (by show 2 ≤ 100000; decide)))))
  | window n s =>
    obtain ⟨a, b, rfl, w1, w2, w3, w4⟩ := wf
    exact sr_seq (sr_match (ed_op (ed_var rfl h_part) ed_int (rd_ixT rfl)) (sr_miss ne_wb (sr_hit (sr_ret (ed_tup (eda_cons (ed_op (ed_op (ed_var rfl h_value) ed_int (rd_ixT rfl)) ed_int rd_add) (eda_cons (ed_op (ed_var rfl h_value) ed_int (rd_ixT rfl)) eda_nil)) (by show 2 ≤ 100000; decide))))))
  | slide n s =>
    obtain ⟨as, rfl, w1, w2⟩ := wf
    obtain ⟨o1, o2, o3, o4⟩ := ok
    exact sr_seq (sr_match (ed_op (ed_var rfl h_part) ed_int (rd_ixT rfl)) (sr_miss ne_sb (sr_miss ne_sw (sr_hit (sr_ret (ed_tup (eda_starT (G := gs X C) (ed_var rfl h_value) (eda_cons ed_int eda_nil)) (by simp; omega)))))))
  | gap s =>
    obtain ⟨a, rfl, w1, w2⟩ := wf
    exact sr_matchN (ed_op (ed_var rfl h_part) ed_int (rd_ixT rfl)) (miss_nx ne_gb (miss_nx ne_gw (miss_nx ne_gs fun _ _ _ q => q))) (sr_ret (ed_op (ed_var rfl h_part) ed_int (rd_ixT rfl)))
end
end K3

set_option Elab.async false
set_option linter.all false
set_option maxRecDepth 100000
set_option maxHeartbeats 4000000
/-! The program's chains of machines: what each def answers. -/
namespace K3
open PySem PySem.Spec PyProof.Rows L2 He
section
variable {G : Gs} {σ : L2.St} {H : Hp} {te : TE} {z : TS} {r : D} {ds : List D}
/-- name = a new list of one's own -/
theorem sr_asgN {i : Nat} (h : EdN G te σ H ds) (k : ∀ p us H0 H1, Same H H0 → H0 p = none → Same H0 H1 → H1 p = some (.lst us) → DAll G H1 us ds → ∀ Dd : Ends, (∀ v H', Same H0 H' → DAt G H' v r → Dd.rt v H') → z Dd (σ.set i (some (.ref p))) H1) : SRet G (tSeq (tAsg te (gName i)) z) σ H r := fun Dd H0 s q =>
  h H0 s _ fun p us H1 n s1 hp da => k p us H0 H1 s n s1 hp da Dd q
end
theorem imm_kyd {n : Nat} {d : D} (h : kyd n d = true) : imm d = true := (kyd_facts d n h).1
theorem immAll_kyd {n : Nat} {ds : List D} (h : kydAll n ds = true) : immAll ds = true := immAll_iff.mpr fun d hd => imm_kyd (kydAll_iff.mp h d hd)
theorem imm_dPt (p : Pt) : imm (dPt p) = true := by cases p <;> rfl
theorem imm_dLk (l : Lk) : imm (dLk l) = true := by rw [dLk, imm, immAll, immAll, imm_dPt]; rfl
theorem imm_rows (c : Ch) : immAll (c.rows.map dLk) = true := immAll_iff.mpr fun d hd => by obtain ⟨l, _, rfl⟩ := List.mem_map.mp hd; exact imm_dLk l
theorem imm_dCh (c : Ch) : imm (dCh c) = true := by rw [dCh, imm, imm]; exact imm_rows c
def lAt (ls : List Lk) (i : Nat) : Lk := ls.getD i ⟨false, .gap 1⟩
theorem lAt_eq {ls : List Lk} {i : Nat} {l : Lk} (h : ls[i]? = some l) : lAt ls i = l := by unfold lAt; rw [List.getD_eq_getElem?_getD, h]; rfl
theorem dAt_eq {ds : List D} {i : Nat} {d : D} (h : ds[i]? = some d) : dAt ds i = d := by unfold dAt; rw [List.getD_eq_getElem?_getD, h]; rfl
theorem askR_all {k : Nat} : ∀ {ls : List Lk} {ds : List D}, ds.length = ls.length → ((List.range ls.length).map fun i => letsL (lAt ls i) k (dAt ds i)).all id = (askR ls k ds).1
  | [], ds, h => by cases ds with | nil => rfl | cons _ _ => simp at h
  | l :: ls, [], h => by simp at h
  | l :: ls, d :: ds, h => by
    rw [List.length_cons, List.range_succ_eq_map, List.map_cons, List.map_map, List.all_cons]
    have ih := askR_all (k := k) (ls := ls) (ds := ds) (by simpa using h)
    have e : ((List.range ls.length).map ((fun i => letsL (lAt (l :: ls) i) k (dAt (d :: ds) i)) ∘ Nat.succ)) = (List.range ls.length).map fun i => letsL (lAt ls i) k (dAt ds i) := by
      apply List.map_congr_left
      intro i _
      show letsL (lAt (l :: ls) (i + 1)) k (dAt (d :: ds) (i + 1)) = _
      unfold lAt dAt; simp
    rw [e, ih]
    show (letsL l k d && (askR ls k ds).1) = _
    rw [show askR (l :: ls) k (d :: ds) = if letsL l k d = true then ((askR ls k ds).1, countL l k d :: (askR ls k ds).2) else (false, d :: ds) from rfl]
    cases q : letsL l k d with
    | true => rw [if_pos rfl]; rfl
    | false => rw [if_neg (by decide)]; rfl
section
variable {X : Cx} {C CC aS aT : Addr} {H : Hp} {vs : List V} {ds : List D} {r : D}
theorem p_first_state (F : Fp X.K C CC aS aT) (hm : m_first_state ds r) (h : DAll (gs X C) H vs ds) : SRet (gs X C) (t_first_state X C CC aS aT (spD (gs X C) m_first_of)) (start N_first_state vs) H r := by
  obtain ⟨c, ok, rfl, rfl⟩ := hm
  obtain ⟨x, rfl, h_chain⟩ := one_of h
  have hf := ok.f2
  have hf1 := ok.f1
  have h3 := ok.r3
  refine sr_asgN (edn_lst eda_nil (by show 0 ≤ 100000; decide)) fun p us H0 H1 s0 n s1 hp da Dd q => ?_
  cases da
  have hc0 := h_chain.mn s0
  have kd : kydAll 2 (c.rows.map (firstL c.folk)) = true := wfR_kyd (wfR_first ok.ok)
  refine for_appT (G := gs X C) (H0 := H0) (res := c.rows.map (firstL c.folk)) (ds := c.rows.map dLk) (l := p) (fun σ' => ∃ a b, σ' = [some x, some (.ref p), a, b]) (immAll_kyd kd) (imm_rows c) (by simp) (by simp; omega)
    (ed_rows F (ed_var rfl (hc0.mn s1))) s1 n hp ⟨_, _, rfl⟩ (fun i d r x' σ' H' acc Nx hd hr g s' dx hl hz k => ?_) (fun σ' H' acc g s' hl da => ?_)
  · obtain ⟨a, b, rfl⟩ := g
    rw [List.getElem?_map] at hd hr
    obtain ⟨l, e1, rfl⟩ := Option.map_eq_some_iff.mp hd
    rw [e1] at hr
    cases hr
    refine g_pair (G := gs X C) dx fun u v h_scope h_part => app_body (G := gs X C) (li := 1) (l := p) rfl hl hz (d := firstL c.folk l) (ed_if (b := !l.each) (Evl.et_is (et_test (ed_op (ed_var rfl h_scope) ed_str (rd_eq (cs (sok_sc l.each) sok_all)))) (sc_all l.each)) (fun hb => ?_) (fun hb => ?_)) fun w H2 s2 dw => k _ w H2 ⟨_, _, rfl⟩ s2 dw
    · have hb : l.each = false := by simpa using hb
      refine Ed.is (ed_call (eda_cons (ed_var rfl h_part) eda_nil) ⟨l.p, rfl, rfl⟩) ?_
      unfold firstL; rw [hb]; rfl
    · have hb : l.each = true := by simpa using hb
      refine Ed.is (ed_op (ed_tup (eda_cons (ed_call (eda_cons (ed_var rfl h_part) eda_nil) ⟨l.p, rfl, rfl⟩) eda_nil) (by show 1 ≤ 100000; decide)) (ed_folk F (ed_var rfl (hc0.mn s'))) (rd_rep (by omega) (by simp) (by show 1 ≤ 1000; decide))) ?_
      unfold firstL; rw [hb, if_pos rfl]
      congr 1
      generalize c.folk = m
      induction m with
      | zero => rfl
      | succ m ih => rw [List.replicate_succ, List.flatten_cons, ih, List.replicate_succ]; rfl
  · obtain ⟨a, b, rfl⟩ := g
    exact sr_ret (ed_cb (eda_cons (ed_var rfl (.lst (.inl (.inl hl)) da)) eda_nil) rc_tupL) Dd H' (Same.refl H') fun v H2 s2 dv => q v H2 (s'.trans s2) dv
theorem tickR_len : ∀ {ls : List Lk} {ds : List D}, ds.length = ls.length → (tickR ls ds).length = ls.length
  | [], [], _ => rfl
  | l :: ls, d :: ds, h => by rw [tickR, List.length_cons, List.length_cons, tickR_len (by simpa using h)]
  | [], _ :: _, h => by simp at h
  | _ :: _, [], h => by simp at h
theorem tickR_get : ∀ {ls : List Lk} {ds : List D} {i : Nat} {l : Lk} {d : D}, ls[i]? = some l → ds[i]? = some d → (tickR ls ds)[i]? = some (tickL l d)
  | l :: ls, d :: ds, 0, _, _, h, k => by
    simp only [List.getElem?_cons_zero, Option.some.injEq] at h k
    rw [← h, ← k]; rfl
  | l :: ls, d :: ds, i + 1, _, _, h, k => by
    simp only [List.getElem?_cons_succ] at h k
    rw [tickR, List.getElem?_cons_succ]; exact tickR_get h k
  | [], _, i, _, _, h, _ => by simp at h
  | _ :: _, [], i, _, _, _, h => by simp at h
theorem p_after_tick (F : Fp X.K C CC aS aT) (hm : m_after_tick ds r) (h : DAll (gs X C) H vs ds) : SRet (gs X C) (t_after_tick X C CC aS aT (spD (gs X C) m_ticked)) (start N_after_tick vs) H r := by
  obtain ⟨c, d, ok, wf, rfl, rfl⟩ := hm
  obtain ⟨x, y, rfl, h_chain, h_value⟩ := two_of h
  obtain ⟨es, rfl, wf⟩ := wf
  have h3 := ok.r3
  have hf := ok.f2
  have hle := wf.length
  refine sr_asgN (edn_lst eda_nil (by show 0 ≤ 100000; decide)) fun p us H0 H1 s0 n s1 hp da Dd q => ?_
  cases da
  have hc0 := h_chain.mn s0
  have hv0 := h_value.mn s0
  have kd : kydAll 2 (tickR c.rows es) = true := wfR_kyd (wfR_tick ok.ok wf)
  refine for_appZ (G := gs X C) (H0 := H0) (res := tickR c.rows es) (ds := c.rows.map dLk) (es := es) (l := p) (fun σ' => ∃ a b e f, σ' = [some x, some y, some (.ref p), a, b, e, f]) (immAll_kyd kd) (imm_rows c) (immAll_kyd (wfR_kyd wf)) (by rw [tickR_len hle]; simp) (by simp; omega) (by simp; omega)
    (eda_cons (ed_rows F (ed_var rfl (hc0.mn s1))) (eda_cons (ed_var rfl (hv0.mn s1)) eda_nil)) s1 n hp ⟨_, _, _, _, rfl⟩ (fun i d e r x' σ' H' acc Nx hd he hr g s' dx hl hz k => ?_) (fun σ' H' acc g s' hl da => ?_)
  · obtain ⟨a, b, e', f, rfl⟩ := g
    rw [List.getElem?_map] at hd
    obtain ⟨l, e1, rfl⟩ := Option.map_eq_some_iff.mp hd
    rw [tickR_get e1 he] at hr
    cases hr
    obtain ⟨e0, e2, wl⟩ := wf.get e1
    rw [he] at e2; cases e2
    have okl := ok.ok l (List.mem_of_getElem? e1)
    refine g_pair3 (G := gs X C) dx fun u v w h_scope h_part h_one => app_body (G := gs X C) (li := 2) (l := p) rfl hl hz (d := tickL l e) (ed_if (b := !l.each) (Evl.et_is (et_test (ed_op (ed_var rfl h_scope) ed_str (rd_eq (cs (sok_sc l.each) sok_all)))) (sc_all l.each)) (fun hb => ?_) (fun hb => ?_)) fun w H2 s2 dw => k _ w H2 ⟨_, _, _, _, rfl⟩ s2 dw
    · have hb : l.each = false := by simpa using hb
      unfold WfL at wl
      rw [hb] at wl
      refine Ed.is (ed_call (eda_cons (ed_var rfl h_part) (eda_cons (ed_var rfl h_one) eda_nil)) ⟨l.p, e, wl, okl, rfl, rfl⟩) ?_
      unfold tickL; rw [hb]; rfl
    · have hb : l.each = true := by simpa using hb
      unfold WfL at wl
      rw [hb, if_pos rfl] at wl
      obtain ⟨fs, rfl, hl2, wl⟩ := wl
      have e3 : tickL l (.tup fs) = .tup (fs.filterMap fun d => some (tickP l.p d)) := by
        unfold tickL mapT; rw [hb, if_pos rfl, List.filterMap_eq_map']
      rw [e3]
      refine ed_cb (eda_cons (EdN.ed (ed_lcT (G := gs X C) (fun d => some (tickP l.p d)) (by omega) (ed_var rfl h_one) (immAll_iff.mpr fun d hd => imm_kyd (wf_kyd (wl d hd))) (fun d hd r hr => ?_) (fun d hd z H2 s2 dz => ?_))) eda_nil) rc_tupL
      · cases hr; exact imm_kyd (wf_kyd (wf_tick okl (wl d hd)))
      · refine ct_name rfl et_yes fun r hr => ?_
        cases hr
        exact ed_call (eda_cons (ed_var rfl (h_part.mn s2)) (eda_cons (ed_var rfl dz) eda_nil)) ⟨l.p, d, wl d hd, okl, rfl, rfl⟩
  · obtain ⟨a, b, e, f, rfl⟩ := g
    exact sr_ret (ed_cb (eda_cons (ed_var rfl (.lst (.inl (.inl hl)) da)) eda_nil) rc_tupL) Dd H' (Same.refl H') fun v H2 s2 dv => q v H2 (s'.trans s2) dv
theorem p_lets_at (F : Fp X.K C CC aS aT) (hm : m_lets_at ds r) (h : DAll (gs X C) H vs ds) : SRet (gs X C) (t_lets_at X C CC aS aT (spD (gs X C) m_does_let)) (start N_lets_at vs) H r := by
  obtain ⟨c, d, i, k, l, ok, wf, hl, hk, rfl, rfl⟩ := hm
  obtain ⟨x, y, z, u, rfl, h_chain, h_value, h_index, h_caller⟩ := four_of h
  obtain ⟨es, rfl, wf⟩ := wf
  obtain ⟨e, he, wl⟩ := wf.get hl
  have okl := ok.ok l (List.mem_of_getElem? hl)
  have er : (c.rows.map dLk)[i]? = some (dLk l) := by rw [List.getElem?_map, hl]; rfl
  have ei : dAt (unT (.tup es)) i = e := dAt_eq he
  rw [ei]
  refine sr_asg2 (G := gs X C) (ed_op (ed_rows F (ed_var rfl h_chain)) (ed_var rfl h_index) (rd_ixT (atI_nat er))) fun v w H1 s1 h_scope h_part => ?_
  have h_value := h_value.mn s1
  have h_index := h_index.mn s1
  have h_caller := h_caller.mn s1
  unfold WfL at wl
  cases hb : l.each with
  | false =>
    rw [hb] at wl
    have e5 : letsL l k e = letsP l.p e := by unfold letsL; rw [hb]; rfl
    rw [e5]
    refine sr_ret (ed_call (eda_cons (ed_var rfl h_part) (eda_cons (d := e) (ed_if (b := !l.each) (Evl.et_is (et_test (ed_op (ed_var rfl h_scope) ed_str (rd_eq (cs (sok_sc l.each) sok_all)))) (sc_all l.each)) (fun _ => ed_op (ed_var rfl h_value) (ed_var rfl h_index) (rd_ixT (atI_nat he))) (fun q => by rw [hb] at q; cases q)) eda_nil)) ⟨l.p, e, wl, okl, rfl, rfl⟩)
  | true =>
    rw [hb, if_pos rfl] at wl
    obtain ⟨fs, rfl, hl2, wl⟩ := wl
    have hk2 : k < fs.length := by omega
    have e6 : fs[k]? = some (dAt fs k) := by unfold dAt; rw [List.getD_eq_getElem?_getD, List.getElem?_eq_getElem hk2]; rfl
    have e5 : letsL l k (.tup fs) = letsP l.p (dAt fs k) := by unfold letsL; rw [hb]; rfl
    rw [e5]
    refine sr_ret (ed_call (eda_cons (ed_var rfl h_part) (eda_cons (d := dAt fs k) (ed_if (b := !l.each) (Evl.et_is (et_test (ed_op (ed_var rfl h_scope) ed_str (rd_eq (cs (sok_sc l.each) sok_all)))) (sc_all l.each)) (fun q => by rw [hb] at q; cases q) (fun _ => ed_op (ed_op (ed_var rfl h_value) (ed_var rfl h_index) (rd_ixT (atI_nat he))) (ed_var rfl h_caller) (rd_ixT (atI_nat e6)))) eda_nil)) ⟨l.p, _, wl _ (mem_dAt hk2), okl, rfl, rfl⟩)
end
end K3

set_option Elab.async false
set_option linter.all false
set_option maxRecDepth 100000
set_option maxHeartbeats 4000000
/-! The program's steps: what each def answers. -/
namespace K3
open PySem PySem.Spec PyProof.Rows L2 He
section
variable {G : Gs} {σ : L2.St} {H : Hp} {ta tb : TE} {tt : TT} {z : TS} {r d : D} {b : Bool}
/-- if c: x = e else: x = f; the rest -/
theorem sr_if2 {i : Nat} (h : EdT tt σ H b) (h1 : b = true → Ed G ta σ H d) (h2 : b = false → Ed G tb σ H d) (k : ∀ v H1, Same H H1 → DAt G H1 v d → SRet G z (σ.set i (some v)) H1 r) : SRet G (tSeq (tIfS tt (tAsg ta (gName i)) (tAsg tb (gName i))) z) σ H r := fun Dd H1 s q => h H1 s _ fun H2 s2 => by
  cases b with
  | true => exact iteT (h1 rfl H2 (Same.trans s s2) _ fun v H3 s3 dv => k v H3 (Same.trans s (Same.trans s2 s3)) dv Dd H3 (Same.refl H3) fun w H4 s4 dw => q w H4 (Same.trans s2 (Same.trans s3 s4)) dw)
  | false => exact iteF (h2 rfl H2 (Same.trans s s2) _ fun v H3 s3 dv => k v H3 (Same.trans s (Same.trans s2 s3)) dv Dd H3 (Same.refl H3) fun w H4 s4 dw => q w H4 (Same.trans s2 (Same.trans s3 s4)) dw)
end
theorem askR_drop {k i : Nat} {ls : List Lk} {ds : List D} {l : Lk} {d : D} (h1 : ls[i]? = some l) (h2 : ds[i]? = some d) :
    askR (ls.drop i) k (ds.drop i) = if letsL l k d = true then ((askR (ls.drop (i + 1)) k (ds.drop (i + 1))).1, countL l k d :: (askR (ls.drop (i + 1)) k (ds.drop (i + 1))).2) else (false, ds.drop i) := by
  obtain ⟨a1, a2⟩ := List.getElem?_eq_some_iff.mp h1
  obtain ⟨b1, b2⟩ := List.getElem?_eq_some_iff.mp h2
  rw [List.drop_eq_getElem_cons a1, List.drop_eq_getElem_cons b1, a2, b2]
  rfl
theorem wfR_set {folk i : Nat} : ∀ {ls : List Lk} {ds : List D} {j : Nat} {l : Lk} {d : D}, WfR folk ls ds → ls[j]? = some l → WfL folk l d → WfR folk ls (ds.set j d)
  | l :: ls, d :: ds, 0, _, _, w, e, wl => by
    simp only [List.getElem?_cons_zero, Option.some.injEq] at e
    subst e
    exact ⟨wl, w.2⟩
  | l :: ls, d :: ds, j + 1, _, _, w, e, wl => ⟨w.1, wfR_set (i := i) w.2 (by simpa using e) wl⟩
  | [], [], _, _, _, _, e, _ => by simp at e
section
variable {X : Cx} {C CC aS aT : Addr} {H : Hp} {vs : List V} {ds : List D} {r : D}
theorem p_counted_at (F : Fp X.K C CC aS aT) (hm : m_counted_at ds r) (h : DAll (gs X C) H vs ds) : SRet (gs X C) (t_counted_at X C CC aS aT (spD (gs X C) m_counted)) (start N_counted_at vs) H r := by
  obtain ⟨c, d, i, k, l, ok, wf, hl, hk, rfl, rfl⟩ := hm
  obtain ⟨x, y, z, u, rfl, h_chain, h_value, h_index, h_caller⟩ := four_of h
  obtain ⟨es, rfl, wf⟩ := wf
  obtain ⟨e, he, wl⟩ := wf.get hl
  have okl := ok.ok l (List.mem_of_getElem? hl)
  have hle := wf.length
  have h3 := ok.r3
  have hf := ok.f2
  have hi := (List.getElem?_eq_some_iff.mp he).1
  have er : (c.rows.map dLk)[i]? = some (dLk l) := by rw [List.getElem?_map, hl]; rfl
  have ei : dAt (unT (.tup es)) i = e := dAt_eq he
  rw [ei]
  refine sr_asg2 (G := gs X C) (ed_op (ed_rows F (ed_var rfl h_chain)) (ed_var rfl h_index) (rd_ixT (atI_nat er))) fun v w H1 s1 h_scope h_part => ?_
  refine sr_asg (ed_op (ed_var rfl (h_value.mn s1)) (ed_var rfl (h_index.mn s1)) (rd_ixT (atI_nat he))) fun o H2 s2 h_one => ?_
  have s12 := s1.trans s2
  have h_scope := h_scope.mn s2
  have h_part := h_part.mn s2
  have h_caller := h_caller.mn s12
  unfold WfL at wl
  refine sr_if2 (b := !l.each) (d := countL l k e) (Evl.et_is (et_test (ed_op (ed_var rfl h_scope) ed_str (rd_eq (cs (sok_sc l.each) sok_all)))) (sc_all l.each)) (fun hb => ?_) (fun hb => ?_) fun la H3 s3 h_later => ?_
  · have hb : l.each = false := by simpa using hb
    rw [hb] at wl
    refine Ed.is (ed_call (eda_cons (ed_var rfl h_part) (eda_cons (ed_var rfl h_one) eda_nil)) ⟨l.p, e, wl, okl, rfl, rfl⟩) ?_
    unfold countL; rw [hb]; rfl
  · have hb : l.each = true := by simpa using hb
    rw [hb, if_pos rfl] at wl
    obtain ⟨fs, rfl, hl2, wl⟩ := wl
    have hk2 : k < fs.length := by omega
    have e6 : fs[k]? = some (dAt fs k) := by unfold dAt; rw [List.getD_eq_getElem?_getD, List.getElem?_eq_getElem hk2]; rfl
    have e5 : countL l k (.tup fs) = .tup (cutD fs none (some (k : Int)) ++ (countP l.p (dAt fs k) :: (cutD fs (some ((k : Int) + 1)) none ++ []))) := by
      have e7 : cutD fs (some ((k : Int) + 1)) none = fs.drop (k + 1) := cut_from (k := k + 1) (by omega)
      rw [cut_to (by omega), e7, List.append_nil, set_cut hk2]
      unfold countL; rw [hb]; rfl
    rw [e5]
    refine ed_tup (eda_starT (G := gs X C) (ed_slT (ed_var rfl h_one) edp_none (edp_some (ed_var rfl h_caller))) (eda_cons (ed_call (eda_cons (ed_var rfl h_part) (eda_cons (ed_op (ed_var rfl h_one) (ed_var rfl h_caller) (rd_ixT (atI_nat e6))) eda_nil)) ⟨l.p, _, wl _ (mem_dAt hk2), okl, rfl, rfl⟩)
      (eda_starT (G := gs X C) (ed_slT (ed_var rfl h_one) (edp_some (ed_op (ed_var rfl h_caller) ed_int rd_add)) edp_none) eda_nil))) ?_
    rw [cut_to (by omega), show cutD fs (some ((k : Int) + 1)) none = fs.drop (k + 1) from cut_from (k := k + 1) (by omega), List.append_nil, set_cut hk2, List.length_set]
    omega
  · have e5 : (D.tup ((unT (.tup es)).set i (countL l k e))) = .tup (cutD es none (some (i : Int)) ++ (countL l k e :: (cutD es (some ((i : Int) + 1)) none ++ []))) := by
      have e7 : cutD es (some ((i : Int) + 1)) none = es.drop (i + 1) := cut_from (k := i + 1) (by omega)
      rw [cut_to (by omega), e7, List.append_nil, set_cut hi]; rfl
    rw [e5]
    have h_value := h_value.mn (s12.trans s3)
    have h_index := h_index.mn (s12.trans s3)
    refine sr_ret (ed_tup (eda_starT (G := gs X C) (ed_slT (ed_var rfl h_value) edp_none (edp_some (ed_var rfl h_index))) (eda_cons (ed_var rfl h_later) (eda_starT (G := gs X C) (ed_slT (ed_var rfl h_value) (edp_some (ed_op (ed_var rfl h_index) ed_int rd_add)) edp_none) eda_nil))) ?_)
    rw [cut_to (by omega), show cutD es (some ((i : Int) + 1)) none = es.drop (i + 1) from cut_from (k := i + 1) (by omega), List.append_nil, set_cut hi, List.length_set]
    omega
theorem lAt_some {ls : List Lk} {i : Nat} (h : i < ls.length) : ls[i]? = some (lAt ls i) := by unfold lAt; rw [List.getD_eq_getElem?_getD, List.getElem?_eq_getElem h]; rfl
theorem p_answer_at (F : Fp X.K C CC aS aT) (hm : m_answer_at ds r) (h : DAll (gs X C) H vs ds) : SRet (gs X C) (t_answer_at X C CC aS aT (spD (gs X C) m_lets_at)) (start N_answer_at vs) H r := by
  obtain ⟨c, d, k, ok, wf, hk, rfl, rfl⟩ := hm
  obtain ⟨x, y, z, rfl, h_chain, h_value, h_caller⟩ := three_of h
  have h3 := ok.r3
  have hw := wf
  obtain ⟨es, rfl, wf⟩ := wf
  have e : (askS c k (.tup es)).1 = (((List.range c.rows.length).map fun i => letsL (lAt c.rows i) k (dAt es i)).all id) := (askR_all (ds := es) wf.length).symm
  rw [e]
  refine sr_ret (ed_cb (eda_cons (Ed.is (EdN.ed (ed_lcR (G := gs X C) (n := c.rows.length) (fun i => .bl (letsL (lAt c.rows i) k (dAt es i))) (by omega) (eda_cons (Ed.is (ed_cb (eda_cons (ed_rows F (ed_var rfl h_chain)) eda_nil) rc_lenT) (by rw [List.length_map])) eda_nil) (fun i _ => rfl) (fun i hi H1 s => ?_))) (congrArg D.lst (by rw [List.map_map]; rfl))) eda_nil) rc_all)
  refine ct_name (r := some (.bl (letsL (lAt c.rows i) k (dAt es i)))) rfl et_yes fun d q => ?_
  cases q
  exact ed_call (eda_cons (ed_var rfl (h_chain.mn s)) (eda_cons (ed_var rfl (h_value.mn s)) (eda_cons (ed_var rfl (.int (i : Int))) (eda_cons (ed_var rfl (h_caller.mn s)) eda_nil)))) ⟨c, _, i, k, _, ok, hw, lAt_some hi, hk, rfl, rfl⟩
theorem p_after_ask (F : Fp X.K C CC aS aT) (hm : m_after_ask ds r) (h : DAll (gs X C) H vs ds) : SRet (gs X C) (t_after_ask X C CC aS aT (spD (gs X C) m_answer_at) (spD (gs X C) m_lets_at) (spD (gs X C) m_counted_at)) (start N_after_ask vs) H r := by
  obtain ⟨c, d, k, ok, hw, hk, rfl, rfl⟩ := hm
  obtain ⟨x, y, z, rfl, h_chain, h_value, h_caller⟩ := three_of h
  have h3 := ok.r3
  refine sr_asg (ed_call (eda_cons (ed_var rfl h_chain) (eda_cons (ed_var rfl h_value) (eda_cons (ed_var rfl h_caller) eda_nil))) ⟨c, d, k, ok, hw, hk, rfl, rfl⟩) fun o H1 s1 h_is => ?_
  have h_chain := h_chain.mn s1
  have h_value := h_value.mn s1
  have h_caller := h_caller.mn s1
  refine sr_when (b := !(askS c k d).1 && !c.costly) (Evl.et_and (Evl.et_not (et_B (ed_var rfl h_is))) fun _ => (Evl.et_not (et_B (ed_costly F (ed_var rfl h_chain))))) (fun hb => ?_) (fun hb => ?_)
  · rw [Bool.and_eq_true, Bool.not_eq_true', Bool.not_eq_true'] at hb
    have e2 : (askS c k d).2 = d := by
      unfold askS at hb ⊢
      rw [if_neg]
      rw [hb.1, hb.2]; decide
    rw [hb.1, e2]
    exact sr_ret (ed_tup (eda_cons ed_bl (eda_cons (ed_var rfl h_value) eda_nil)) (by show 2 ≤ 100000; decide))
  · have e2 : (askS c k d).2 = .tup (askR c.rows k (unT d)).2 := by
      unfold askS at hb ⊢
      rw [if_pos]
      revert hb
      cases (askR c.rows k (unT d)).1 <;> cases c.costly <;> decide
    rw [e2]
    obtain ⟨es, rfl, wf⟩ := hw
    have hle := wf.length
    intro Dd H2 s2 q
    have h_chain := h_chain.mn s2
    have h_caller := h_caller.mn s2
    refine (Ed.is (ed_cb (G := gs X C) (eda_cons (ed_rows F (ed_var (σ := [some x, some y, some z, some o, none]) rfl h_chain)) eda_nil) rc_lenT) (by rw [List.length_map])) H2 (Same.refl H2) _ fun n H3 s3 dn => ?_
    cases dn
    refine ⟨(c.rows.length : Int), rfl, by omega, by omega, ?_⟩
    have e0 : ((c.rows.length : Int)).toNat = c.rows.length := Int.toNat_natCast _
    rw [e0]
    refine for_range (lo := 0) (n := c.rows.length) (fun i σ' H' => Same H2 H' ∧ ∃ v g cur, σ' = [some x, some v, some z, some o, g] ∧ DAt (gs X C) H' v (.tup cur) ∧ WfR c.folk c.rows cur ∧ ∃ pre, cur = pre ++ es.drop i ∧ pre.length = i ∧
      askR c.rows k es = ((askR (c.rows.drop i) k (es.drop i)).1, pre ++ (askR (c.rows.drop i) k (es.drop i)).2)) ⟨s3, y, none, es, rfl, h_value.mn (s2.trans s3), wf, [], rfl, rfl, rfl⟩ (fun i σ' H' hi p => ?_) (fun σ' H' p => ?_)
    · obtain ⟨s4, v, g, cur, rfl, dv, wc, pre, e3, e4, e5⟩ := p
      have e00 : (0 : Int) + (i : Int) = (i : Int) := Int.zero_add _
      rw [e00]
      have hl := lAt_some hi
      have hie : i < es.length := by omega
      have he : es[i]? = some (dAt es i) := by unfold dAt; rw [List.getD_eq_getElem?_getD, List.getElem?_eq_getElem hie]; rfl
      have hcur : cur[i]? = some (dAt es i) := by
        rw [e3, List.getElem?_append_right (by omega), e4, Nat.sub_self, List.getElem?_drop, Nat.add_zero]; exact he
      have ed := askR_drop (k := k) hl he
      have q2 : ∀ v' H5, Same H' H5 → DAt (gs X C) H5 v' (.tup [.bl (askR c.rows k es).1, .tup (askR c.rows k es).2]) → Dd.rt v' H5 := fun v' H5 s5 dv5 => q v' H5 (s4.trans s5) dv5
      have hc := h_chain.mn s4
      have hk' := h_caller.mn s4
      have ww : WfS c (.tup cur) := ⟨cur, rfl, wc⟩
      have ei : dAt (unT (.tup cur)) i = dAt es i := dAt_eq hcur
      have run : EdT (tNot (tB (tCall (spD (gs X C) m_lets_at) [] C8.E0 (tCons (tVar 0) (tCons (tVar 1) (tCons (tVar 4) (tCons (tVar 2) tNil))))))) [some x, some v, some z, some o, some (.int (i : Int))] H' (!(letsL (lAt c.rows i) k (dAt es i))) := by
        rw [← ei]
        exact Evl.et_not (et_B (ed_call (eda_cons (ed_var rfl hc) (eda_cons (ed_var rfl dv) (eda_cons (ed_var rfl (.int (i : Int))) (eda_cons (ed_var rfl hk') eda_nil)))) ⟨c, _, i, k, _, ok, ww, hl, hk, rfl, rfl⟩))
      show tSeq (tIfS (tNot _) (tRet _) tNext) (tAsg _ (gName 1)) _ [some x, some v, some z, some o, some (.int (i : Int))] H'
      refine Evl.q_when run (fun hlet H5 s5 => ?_) (fun hlet H5 s5 => ?_)
      · have hlet : letsL (lAt c.rows i) k (dAt es i) = false := by simpa using hlet
        rw [hlet, if_neg (by decide)] at ed
        refine (sr_ret (G := gs X C) (ed_tup (eda_cons ed_bl (eda_cons (ed_var (σ := [some x, some v, some z, some o, some (.int (i : Int))]) rfl (dv.mn s5)) eda_nil)) (by show 2 ≤ 100000; decide))) _ H5 (Same.refl H5) fun v' H6 s6 dv6 => q2 v' H6 (Same.trans s5 s6) ?_
        rw [e5, ed]
        rw [e3] at dv6
        exact dv6
      · have hlet : letsL (lAt c.rows i) k (dAt es i) = true := by simpa using hlet
        rw [hlet, if_pos rfl] at ed
        refine (ed_call (G := gs X C) (dom := m_counted_at) (eda_cons (ed_var (σ := [some x, some v, some z, some o, some (.int (i : Int))]) rfl (hc.mn s5)) (eda_cons (ed_var rfl (dv.mn s5)) (eda_cons (ed_var rfl (.int (i : Int))) (eda_cons (ed_var rfl (hk'.mn s5)) eda_nil)))) ⟨c, _, i, k, _, ok, ww, hl, hk, rfl, rfl⟩) H5 (Same.refl H5) _ fun v' H6 s6 dv6 => ?_
        refine ⟨s4.trans (Same.trans s5 s6), v', _, cur.set i (countL (lAt c.rows i) k (dAt es i)), rfl, by rw [ei] at dv6; exact dv6, ?_, pre ++ [countL (lAt c.rows i) k (dAt es i)], ?_, by rw [List.length_append, e4]; rfl, ?_⟩
        · obtain ⟨d0, e7, wl⟩ := wc.get hl
          rw [hcur] at e7; cases e7
          exact wfR_set (i := 0) wc hl (wfL_count (ok.ok _ (List.mem_of_getElem? hl)) hk wl hlet)
        · rw [e3, List.set_append_right _ _ (by omega), e4, Nat.sub_self, List.drop_eq_getElem_cons hie, List.set_cons_zero, List.append_assoc]; rfl
        · rw [e5, ed, List.append_assoc]; rfl
    · obtain ⟨s4, v, g, cur, rfl, dv, wc, pre, e3, e4, e5⟩ := p
      have e6 : askR (c.rows.drop c.rows.length) k (es.drop c.rows.length) = (true, es.drop c.rows.length) := by rw [List.drop_length]; rfl
      refine (sr_ret (G := gs X C) (ed_tup (eda_cons ed_bl (eda_cons (ed_var (σ := [some x, some v, some z, some o, g]) rfl dv) eda_nil)) (by show 2 ≤ 100000; decide))) _ H' (Same.refl H') fun v' H6 s6 dv6 => q v' H6 (s4.trans s6) ?_
      show DAt (gs X C) H6 v' (.tup [.bl (askR c.rows k es).1, .tup (askR c.rows k es).2])
      rw [e5, e6]
      rw [e3] at dv6
      exact dv6
theorem p_after_event (F : Fp X.K C CC aS aT) (hm : m_after_event ds r) (h : DAll (gs X C) H vs ds) : SRet (gs X C) (t_after_event X C CC aS aT (spD (gs X C) m_after_tick) (spD (gs X C) m_after_ask)) (start N_after_event vs) H r := by
  obtain ⟨c, d, e, ok, hw, he, rfl, rfl⟩ := hm
  obtain ⟨x, y, z, rfl, h_chain, h_value, h_event⟩ := three_of h
  refine sr_ret (ed_if (b := decide (e = .tick)) (Evl.et_is (et_test (ed_op (ed_var rfl h_event) (ed_TICK F) (rd_eq (ce e .tick)))) (decB ⟨ev_inj, fun q => by rw [q]⟩)) (fun hb => ?_) (fun hb => ?_))
  · have hb := of_decide_eq_true hb
    subst hb
    exact ed_tup (eda_cons ed_non (eda_cons (ed_call (eda_cons (ed_var rfl h_chain) (eda_cons (ed_var rfl h_value) eda_nil)) ⟨c, d, ok, hw, rfl, rfl⟩) eda_nil)) (by show 2 ≤ 100000; decide)
  · have hb := of_decide_eq_false hb
    rcases mem_evs.mp he with q | ⟨k, hk, rfl⟩
    · exact absurd q hb
    · exact ed_call (eda_cons (ed_var rfl h_chain) (eda_cons (ed_var rfl h_value) (eda_cons (ed_op (ed_var rfl h_event) ed_int (rd_ixT rfl)) eda_nil))) ⟨c, d, k, ok, hw, hk, rfl, rfl⟩
end
end K3

set_option Elab.async false
set_option linter.all false
set_option maxRecDepth 100000
set_option maxHeartbeats 1000000
/-! The law's machines: what each def answers. -/
namespace K3
open PySem PySem.Spec PyProof.Rows L2 He
section
variable {G : Gs} {σ : L2.St} {H : Hp} {te ta tb : TE} {tt : TT} {z : TS} {r d : D} {b : Bool} {ds es : List D}
theorem ed_pr {x : Str} {r : D} {f : Int} {n : Bool} {E : XK} (h : Ed G te σ H (.chn r f n)) (hd : ∀ rv H1, DAt G H1 rv r → ∃ u, (cflds rv f n).lookup x = some u ∧ DAt G H1 u d) : Ed G (tProp G.C (getSp G.C x) [] E te) σ H d := fun H1 s Q q =>
  h H1 s _ fun v H2 s2 dv => by
    cases dv with
    | chn h1 h2 =>
      obtain ⟨u, e, du⟩ := hd _ _ h2
      exact ⟨_, _, _, rfl, h1, _, _, _, u, rfl, h1, e, q u H2 s2 du⟩
theorem ed_links {c : Ch} {E : XK} (h : Ed G te σ H (dCh c)) : Ed G (tProp G.C (getSp G.C "rows") [] E te) σ H (.tup (c.rows.map dLk)) := ed_pr h fun rv H1 h1 => ⟨rv, by rfl, h1⟩
theorem ed_callers {c : Ch} {E : XK} (h : Ed G te σ H (dCh c)) : Ed G (tProp G.C (getSp G.C "folk") [] E te) σ H (.int (c.folk : Int)) := ed_pr h fun rv H1 h1 => ⟨.int (c.folk : Int), by rfl, .int _⟩
theorem ed_charges {c : Ch} {E : XK} (h : Ed G te σ H (dCh c)) : Ed G (tProp G.C (getSp G.C "costly") [] E te) σ H (.bl c.costly) := ed_pr h fun rv H1 h1 => ⟨.bl c.costly, by rfl, .bl _⟩
theorem edn_cat (ha : EdN G ta σ H ds) (hb : EdN G tb σ H es) (hl : ds.length + es.length ≤ 100000) : EdN G (tOp (rAddU G) ta tb) σ H (ds ++ es) := fun H1 s Q q =>
  ha H1 s _ fun p us H2 n2 s2 hp da => hb H2 (s.trans s2) _ fun p' ws H3 n3 s3 hp' db => .inr ⟨p, p', us, ws, rfl, rfl, s3 p _ hp, hp', Evl.sz_of (by rw [da.length, db.length]; exact hl),
    fun l hl' => q l _ _ (s2.free (s3.free hl')) ((s2.trans s3).trans (.new hl')) upd_same (((da.mn s3).append db).mn (.new hl'))⟩
theorem ed_neg {i : Int} (h : Ed G te σ H (.int i)) : Ed G (tUn (rU fun i => .int (-i)) te) σ H (.int (-i)) := fun H1 s Q q => h H1 s _ fun v H2 s2 dv => by
  cases dv; exact ⟨i, rfl, q _ H2 s2 (.int _)⟩
end
theorem sok_b : PyData.strOk "bucket" = true := by decide +kernel
theorem sok_w : PyData.strOk "window" = true := by decide +kernel
theorem sok_s : PyData.strOk "slide" = true := by decide +kernel
theorem sok_g : PyData.strOk "gap" = true := by decide +kernel
theorem str_ne {x y : Str} (h : x ≠ y) : decide (D.str x = D.str y) = false := decide_eq_false fun e => by injection e with e; exact h e
theorem str_eq {x : Str} : decide (D.str x = D.str x) = true := decide_eq_true rfl
section
variable {X : Cx} {C CC aS aT : Addr} {H : Hp} {vs : List V} {ds : List D} {r : D}
theorem p_Levents (F : Fp X.K C CC aS aT) (hm : m_events ds r) (h : DAll (gs X C) H vs ds) : SRet (gs X C) (t_Levents X C CC aS aT) (start N_Levents vs) H r := by
  obtain ⟨c, ok, rfl, rfl⟩ := hm
  obtain ⟨x, rfl, h_chain⟩ := one_of h
  have hf := ok.f2
  have e : (evsOf c).map dEv = [dEv .tick] ++ ((List.range c.folk).map fun i => dEv (.ask i)) := by
    unfold evsOf
    rw [List.map_cons, List.map_map]; rfl
  rw [e]
  refine sr_ret (EdN.ed (edn_cat (edn_lst (eda_cons (ed_tup (eda_cons ed_str eda_nil) (by show 1 ≤ 100000; decide)) eda_nil) (by show 1 ≤ 100000; decide))
    (ed_lcR (G := gs X C) (n := c.folk) (fun i => dEv (.ask i)) (by omega) (eda_cons (ed_callers (G := gs X C) (ed_var rfl h_chain)) eda_nil) (fun i _ => rfl) (fun i hi H1 s => ?_)) (by simp; omega)))
  refine ct_name (r := some (dEv (.ask i))) rfl et_yes fun d e => ?_
  cases e
  exact ed_tup (eda_cons ed_str (eda_cons (ed_var rfl (.int _)) eda_nil)) (by show 2 ≤ 100000; decide)
theorem ne_bw : ¬ ("bucket" : Str) = "window" := ne_wb.symm
theorem ne_bs : ¬ ("bucket" : Str) = "slide" := ne_sb.symm
theorem ne_bg : ¬ ("bucket" : Str) = "gap" := ne_gb.symm
theorem ne_ws : ¬ ("window" : Str) = "slide" := ne_sw.symm
theorem ne_wg : ¬ ("window" : Str) = "gap" := ne_gw.symm
theorem ne_sg : ¬ ("slide" : Str) = "gap" := ne_gs.symm
def kvs4 (u1 u2 u3 u4 : V) : List (Key × V) := [((.inr "bucket" : Key), u1), (.inr "window", u2), (.inr "slide", u3), (.inr "gap", u4)]
theorem merge4 (u1 u2 u3 u4 : V) : mergeK [] (kvs4 u1 u2 u3 u4) = kvs4 u1 u2 u3 u4 := by
  unfold mergeK kvs4
  generalize hb : ("bucket" : Str) = b
  generalize hw : ("window" : Str) = w
  generalize hs : ("slide" : Str) = s
  generalize hg : ("gap" : Str) = g
  have n1 : ¬ b = w := by rw [← hb, ← hw]; exact ne_bw
  have n2 : ¬ b = s := by rw [← hb, ← hs]; exact ne_bs
  have n3 : ¬ b = g := by rw [← hb, ← hg]; exact ne_bg
  have n4 : ¬ w = s := by rw [← hw, ← hs]; exact ne_ws
  have n5 : ¬ w = g := by rw [← hw, ← hg]; exact ne_wg
  have n6 : ¬ s = g := by rw [← hs, ← hg]; exact ne_sg
  simp [putK, n1, n2, n3, n4, n5, n6]
theorem val4 (u1 u2 u3 u4 : V) : valV (kvs4 u1 u2 u3 u4) (.inr "bucket") = some u1 ∧ valV (kvs4 u1 u2 u3 u4) (.inr "window") = some u2 ∧ valV (kvs4 u1 u2 u3 u4) (.inr "slide") = some u3 ∧ valV (kvs4 u1 u2 u3 u4) (.inr "gap") = some u4 := by
  unfold kvs4
  generalize hb : ("bucket" : Str) = b
  generalize hw : ("window" : Str) = w
  generalize hs : ("slide" : Str) = s
  generalize hg : ("gap" : Str) = g
  have n1 : ¬ b = w := by rw [← hb, ← hw]; exact ne_bw
  have n2 : ¬ b = s := by rw [← hb, ← hs]; exact ne_bs
  have n3 : ¬ b = g := by rw [← hb, ← hg]; exact ne_bg
  have n4 : ¬ w = s := by rw [← hw, ← hs]; exact ne_ws
  have n5 : ¬ w = g := by rw [← hw, ← hg]; exact ne_wg
  have n6 : ¬ s = g := by rw [← hs, ← hg]; exact ne_sg
  refine ⟨?_, ?_, ?_, ?_⟩ <;> simp [valV, List.find?_cons, n1, n2, n3, n4, n5, n6]
theorem pair_of {G : Gs} {H : Hp} {v : V} {x : Str} {d : D} (h : DAt G H v (.tup [.str x, d])) : ∃ p u, v = .ref p ∧ SqT G.K H p [.str x, u] ∧ DAt G H u d := by
  cases h with
  | tup h1 h2 =>
    obtain ⟨a, b, rfl, da, db⟩ := two_of h2
    cases da
    exact ⟨_, b, rfl, h1, db⟩
theorem p_Lstart (hm : m_first_state ds r) (h : DAll (gs X C) H vs ds) : SRet (gs X C) (t_Lstart X C CC aS aT (spD (gs X C) m_first_of)) (start N_Lstart vs) H r := by
  obtain ⟨c, ok, rfl, rfl⟩ := hm
  obtain ⟨x, rfl, h_chain⟩ := one_of h
  have hf := ok.f2
  have hf1 := ok.f1
  have h3 := ok.r3
  refine sr_asgN (edn_lst eda_nil (by show 0 ≤ 100000; decide)) fun p us H0 H1 s0 n s1 hp da Dd q => ?_
  cases da
  have hc0 := h_chain.mn s0
  have kd : kydAll 2 (c.rows.map (firstL c.folk)) = true := wfR_kyd (wfR_first ok.ok)
  refine for_appT (G := gs X C) (H0 := H0) (res := c.rows.map (firstL c.folk)) (ds := c.rows.map dLk) (l := p) (fun σ' => ∃ a b e, σ' = [some x, some (.ref p), a, b, e]) (immAll_kyd kd) (imm_rows c) (by simp) (by simp; omega)
    (ed_links (G := gs X C) (ed_var rfl (hc0.mn s1))) s1 n hp ⟨_, _, _, rfl⟩ (fun i d r x' σ' H' acc Nx hd hr g s' dx hl hz k => ?_) (fun σ' H' acc g s' hl da => ?_)
  · obtain ⟨a, b, e, rfl⟩ := g
    rw [List.getElem?_map] at hd hr
    obtain ⟨l, e1, rfl⟩ := Option.map_eq_some_iff.mp hd
    rw [e1] at hr
    cases hr
    refine g_pair (G := gs X C) dx fun u v h_scope h_part => ?_
    refine (ed_call (G := gs X C) (dom := m_first_of) (eda_cons (ed_var (σ := [some x, some (.ref p), some u, some v, e]) rfl h_part) eda_nil) ⟨l.p, rfl, rfl⟩) H' (Same.refl H') _ fun o H5 s5 h_one => ?_
    have h_scope := h_scope.mn s5
    refine app_body (G := gs X C) (li := 1) (l := p) (σ := [some x, some (.ref p), some u, some v, some o]) rfl (s5 p _ hl) hz (d := firstL c.folk l) (ed_if (b := !l.each) (Evl.et_is (et_test (ed_op (ed_var rfl h_scope) ed_str (rd_eq (cs (sok_sc l.each) sok_all)))) (sc_all l.each)) (fun hb => ?_) (fun hb => ?_)) fun w H2 s2 dw => ?_
    · have hb : l.each = false := by simpa using hb
      refine Ed.is (ed_var rfl h_one) ?_
      unfold firstL; rw [hb]; rfl
    · have hb : l.each = true := by simpa using hb
      refine Ed.is (ed_op (ed_tup (eda_cons (ed_var rfl h_one) eda_nil) (by show 1 ≤ 100000; decide)) (ed_callers (G := gs X C) (ed_var rfl ((hc0.mn s').mn s5))) (rd_rep (by omega) (by simp) (by show 1 ≤ 1000; decide))) ?_
      unfold firstL; rw [hb, if_pos rfl]
      congr 1
      generalize c.folk = m
      induction m with
      | zero => rfl
      | succ m ih => rw [List.replicate_succ, List.flatten_cons, ih, List.replicate_succ]; rfl
    · exact k _ w H2 ⟨_, _, _, rfl⟩ (s5.trans s2) dw
  · obtain ⟨a, b, e, rfl⟩ := g
    exact sr_ret (ed_cb (eda_cons (ed_var rfl (.lst (.inl (.inl hl)) da)) eda_nil) rc_tupL) Dd H' (Same.refl H') fun v H2 s2 dv => q v H2 (s'.trans s2) dv
theorem p_Lolder (hm : m_ticked ds r) (h : DAll (gs X C) H vs ds) : SRet (gs X C) (t_Lolder X C CC aS aT) (start N_Lolder vs) H r := by
  obtain ⟨p, d, wf, ok, rfl, rfl⟩ := hm
  obtain ⟨x, y, rfl, h_part, h_one⟩ := two_of h
  cases p with
  | bucket n s =>
    obtain ⟨a, b, rfl, w1, w2, w3, w4⟩ := wf
    refine sr_when (b := false) (Evl.et_is (et_test (ed_op (ed_op (ed_var rfl h_part) ed_int (rd_ixT rfl)) ed_str (rd_eq (cs sok_b sok_g)))) (str_ne ne_gb.symm)) (fun q => by cases q) fun _ => ?_
    refine sr_when (b := false) (Evl.et_is (et_test (ed_op (ed_op (ed_var rfl h_part) ed_int (rd_ixT rfl)) ed_str (rd_eq (cs sok_b sok_s)))) (str_ne ne_sb.symm)) (fun q => by cases q) fun _ => ?_
    refine sr_par (eda_cons (ed_op (ed_var rfl h_one) ed_int (rd_ixT rfl)) (eda_cons (ed_op (ed_op (ed_var rfl h_one) ed_int (rd_ixT rfl)) ed_int rd_add) eda_nil)) fun u v H1 s1 h_num h_since => ?_
    have h_part := h_part.mn s1
    refine sr_when (et_test (ed_op (ed_var rfl h_since) (ed_op (ed_var rfl h_part) ed_int (rd_ixT rfl)) rd_B0)) (fun hb => ?_) (fun hb => ?_)
    · have hb := of_decide_eq_true hb
      have e : tickP (.bucket n s) (.tup [.int a, .int b]) = .tup [.int a, .int (b + 1)] := if_neg (by omega)
      rw [e]
      exact sr_ret (ed_tup (eda_cons (ed_var rfl h_num) (eda_cons (ed_var rfl h_since) eda_nil)) (by show 2 ≤ 100000; decide))
    · have hb := of_decide_eq_false hb
      have e : tickP (.bucket n s) (.tup [.int a, .int b]) = .tup [.int (if a + 1 < n then a + 1 else n), .int 0] := if_pos (by omega)
      rw [e]
      exact sr_ret (ed_if (b := false) (Evl.et_is (et_test (ed_op (ed_op (ed_var rfl h_part) ed_int (rd_ixT rfl)) ed_str (rd_eq (cs sok_b sok_w)))) (str_ne ne_wb.symm)) (fun q => by cases q) (fun _ => (ed_tup (eda_cons (ed_cb (eda_cons (ed_op (ed_var rfl h_part) ed_int (rd_ixT rfl)) (eda_cons (ed_op (ed_var rfl h_num) ed_int rd_add) eda_nil)) rc_min2) (eda_cons ed_int eda_nil)) (by show 2 ≤ 100000; decide))))
  | window n s =>
    obtain ⟨a, b, rfl, w1, w2, w3, w4⟩ := wf
    refine sr_when (b := false) (Evl.et_is (et_test (ed_op (ed_op (ed_var rfl h_part) ed_int (rd_ixT rfl)) ed_str (rd_eq (cs sok_w sok_g)))) (str_ne ne_gw.symm)) (fun q => by cases q) fun _ => ?_
    refine sr_when (b := false) (Evl.et_is (et_test (ed_op (ed_op (ed_var rfl h_part) ed_int (rd_ixT rfl)) ed_str (rd_eq (cs sok_w sok_s)))) (str_ne ne_sw.symm)) (fun q => by cases q) fun _ => ?_
    refine sr_par (eda_cons (ed_op (ed_var rfl h_one) ed_int (rd_ixT rfl)) (eda_cons (ed_op (ed_op (ed_var rfl h_one) ed_int (rd_ixT rfl)) ed_int rd_add) eda_nil)) fun u v H1 s1 h_num h_since => ?_
    have h_part := h_part.mn s1
    refine sr_when (et_test (ed_op (ed_var rfl h_since) (ed_op (ed_var rfl h_part) ed_int (rd_ixT rfl)) rd_B0)) (fun hb => ?_) (fun hb => ?_)
    · have hb := of_decide_eq_true hb
      have e : tickP (.window n s) (.tup [.int a, .int b]) = .tup [.int a, .int (b + 1)] := if_neg (by omega)
      rw [e]
      exact sr_ret (ed_tup (eda_cons (ed_var rfl h_num) (eda_cons (ed_var rfl h_since) eda_nil)) (by show 2 ≤ 100000; decide))
    · have hb := of_decide_eq_false hb
      have e : tickP (.window n s) (.tup [.int a, .int b]) = .tup [.int 0, .int 0] := if_pos (by omega)
      rw [e]
      exact sr_ret (ed_if (b := true) (Evl.et_is (et_test (ed_op (ed_op (ed_var rfl h_part) ed_int (rd_ixT rfl)) ed_str (rd_eq (cs sok_w sok_w)))) str_eq) (fun _ => (ed_tup (eda_cons ed_int (eda_cons ed_int eda_nil)) (by show 2 ≤ 100000; decide))) (fun q => by cases q))
  | slide n s =>
    obtain ⟨as, rfl, w1, w2⟩ := wf
    obtain ⟨o1, o2, o3, o4⟩ := ok
    refine sr_when (b := false) (Evl.et_is (et_test (ed_op (ed_op (ed_var rfl h_part) ed_int (rd_ixT rfl)) ed_str (rd_eq (cs sok_s sok_g)))) (str_ne ne_gs.symm)) (fun q => by cases q) fun _ => ?_
    refine sr_when (b := true) (Evl.et_is (et_test (ed_op (ed_op (ed_var rfl h_part) ed_int (rd_ixT rfl)) ed_str (rd_eq (cs sok_s sok_s)))) str_eq) (fun _ => ?_) fun q => by cases q
    refine sr_ret (ed_cb (eda_cons (EdN.ed (ed_lcT (G := gs X C) (ageUp s) (by rw [List.length_map]; omega) (ed_var rfl h_one) ?_ ?_ ?_)) eda_nil) rc_tupL)
    · exact immAll_iff.mpr fun d hd => by obtain ⟨a, _, rfl⟩ := List.mem_map.mp hd; rfl
    · intro d hd r hr
      obtain ⟨a, _, rfl⟩ := List.mem_map.mp hd
      have hr : (if a + 1 < s then some (D.int (a + 1)) else none) = some r := hr
      split at hr
      · cases hr; rfl
      · cases hr
    · intro d hd x H1 s1 dx
      obtain ⟨a, _, rfl⟩ := List.mem_map.mp hd
      have h_part := h_part.mn s1
      refine ct_name rfl (Evl.et_is (et_test (ed_op (ed_op (ed_var rfl dx) ed_int rd_add) (ed_op (ed_var rfl h_part) ed_int (rd_ixT rfl)) rd_B0)) ?_) fun d e => ?_
      · show decide (a + 1 < s) = (if a + 1 < s then some (D.int (a + 1)) else none).isSome
        split
        · exact decide_eq_true ‹_›
        · exact decide_eq_false ‹_›
      · have e : (if a + 1 < s then some (D.int (a + 1)) else none) = some d := e
        split at e
        · cases e
          exact ed_op (ed_var rfl dx) ed_int rd_add
        · cases e
  | gap s =>
    obtain ⟨a, rfl, w1, w2⟩ := wf
    refine sr_when (b := true) (Evl.et_is (et_test (ed_op (ed_op (ed_var rfl h_part) ed_int (rd_ixT rfl)) ed_str (rd_eq (cs sok_g sok_g)))) str_eq) (fun _ => ?_) fun q => by cases q
    refine sr_ret (ed_if (b := decide (0 < a)) (et_test (ed_op (ed_var rfl h_one) ed_int rd_B0)) (fun hb => ?_) (fun hb => ?_))
    · refine Ed.is (ed_op (ed_var rfl h_one) ed_int rd_I0) ?_
      show D.int _ = D.int (if 0 < a then a - 1 else 0)
      rw [if_pos (of_decide_eq_true hb)]
    · refine Ed.is ed_int ?_
      show D.int _ = D.int (if 0 < a then a - 1 else 0)
      rw [if_neg (of_decide_eq_false hb)]
theorem p_Lroom (hm : m_does_let ds r) (h : DAll (gs X C) H vs ds) : SRet (gs X C) (t_Lroom X C CC aS aT) (start N_Lroom vs) H r := by
  obtain ⟨p, d, wf, ok, rfl, rfl⟩ := hm
  obtain ⟨x, y, rfl, h_part, h_one⟩ := two_of h
  cases p with
  | bucket n s =>
    obtain ⟨a, b, rfl, w1, w2, w3, w4⟩ := wf
    refine sr_when (b := false) (Evl.et_is (et_test (ed_op (ed_op (ed_var rfl h_part) ed_int (rd_ixT rfl)) ed_str (rd_eq (cs sok_b sok_g)))) (str_ne ne_gb.symm)) (fun q => by cases q) fun _ => ?_
    refine sr_when (b := false) (Evl.et_is (et_test (ed_op (ed_op (ed_var rfl h_part) ed_int (rd_ixT rfl)) ed_str (rd_eq (cs sok_b sok_s)))) (str_ne ne_sb.symm)) (fun q => by cases q) fun _ => ?_
    refine sr_ret (ed_if (b := false) (Evl.et_is (et_test (ed_op (ed_op (ed_var rfl h_part) ed_int (rd_ixT rfl)) ed_str (rd_eq (cs sok_b sok_w)))) (str_ne ne_wb.symm)) (fun q => by cases q) (fun _ => Ed.is (ed_op (ed_op (ed_var rfl h_one) ed_int (rd_ixT rfl)) ed_int rd_B0) ?_))
    exact congrArg D.bl (decB (by omega))
  | window n s =>
    obtain ⟨a, b, rfl, w1, w2, w3, w4⟩ := wf
    refine sr_when (b := false) (Evl.et_is (et_test (ed_op (ed_op (ed_var rfl h_part) ed_int (rd_ixT rfl)) ed_str (rd_eq (cs sok_w sok_g)))) (str_ne ne_gw.symm)) (fun q => by cases q) fun _ => ?_
    refine sr_when (b := false) (Evl.et_is (et_test (ed_op (ed_op (ed_var rfl h_part) ed_int (rd_ixT rfl)) ed_str (rd_eq (cs sok_w sok_s)))) (str_ne ne_sw.symm)) (fun q => by cases q) fun _ => ?_
    exact sr_ret (ed_if (b := true) (Evl.et_is (et_test (ed_op (ed_op (ed_var rfl h_part) ed_int (rd_ixT rfl)) ed_str (rd_eq (cs sok_w sok_w)))) str_eq) (fun _ => ed_op (ed_op (ed_var rfl h_one) ed_int (rd_ixT rfl)) (ed_op (ed_var rfl h_part) ed_int (rd_ixT rfl)) rd_B0) (fun q => by cases q))
  | slide n s =>
    obtain ⟨as, rfl, w1, w2⟩ := wf
    refine sr_when (b := false) (Evl.et_is (et_test (ed_op (ed_op (ed_var rfl h_part) ed_int (rd_ixT rfl)) ed_str (rd_eq (cs sok_s sok_g)))) (str_ne ne_gs.symm)) (fun q => by cases q) fun _ => ?_
    exact sr_when (b := true) (Evl.et_is (et_test (ed_op (ed_op (ed_var rfl h_part) ed_int (rd_ixT rfl)) ed_str (rd_eq (cs sok_s sok_s)))) str_eq) (fun _ => sr_ret (ed_op (ed_cb (eda_cons (ed_var rfl h_one) eda_nil) rc_lenT) (ed_op (ed_var rfl h_part) ed_int (rd_ixT rfl)) rd_B0)) fun q => by cases q
  | gap s =>
    obtain ⟨a, rfl, w1, w2⟩ := wf
    exact sr_when (b := true) (Evl.et_is (et_test (ed_op (ed_op (ed_var rfl h_part) ed_int (rd_ixT rfl)) ed_str (rd_eq (cs sok_g sok_g)))) str_eq) (fun _ => sr_ret (Ed.is (ed_op (ed_var rfl h_one) ed_int (rd_eq (ci _ _))) (congrArg D.bl dec_int))) fun q => by cases q
theorem p_Lmore (hm : m_counted ds r) (h : DAll (gs X C) H vs ds) : SRet (gs X C) (t_Lmore X C CC aS aT) (start N_Lmore vs) H r := by
  obtain ⟨p, d, wf, ok, rfl, rfl⟩ := hm
  obtain ⟨x, y, rfl, h_part, h_one⟩ := two_of h
  cases p with
  | bucket n s =>
    obtain ⟨a, b, rfl, w1, w2, w3, w4⟩ := wf
    refine sr_when (b := false) (Evl.et_is (et_test (ed_op (ed_op (ed_var rfl h_part) ed_int (rd_ixT rfl)) ed_str (rd_eq (cs sok_b sok_g)))) (str_ne ne_gb.symm)) (fun q => by cases q) fun _ => ?_
    refine sr_when (b := false) (Evl.et_is (et_test (ed_op (ed_op (ed_var rfl h_part) ed_int (rd_ixT rfl)) ed_str (rd_eq (cs sok_b sok_s)))) (str_ne ne_sb.symm)) (fun q => by cases q) fun _ => ?_
    exact sr_ret (ed_tup (eda_cons (ed_op (ed_op (ed_var rfl h_one) ed_int (rd_ixT rfl)) (ed_if (b := false) (d := .int (-1)) (Evl.et_is (et_test (ed_op (ed_op (ed_var rfl h_part) ed_int (rd_ixT rfl)) ed_str (rd_eq (cs sok_b sok_w)))) (str_ne ne_wb.symm)) (fun q => by cases q) (fun _ => ed_neg ed_int)) rd_add) (eda_cons (ed_op (ed_var rfl h_one) ed_int (rd_ixT rfl)) eda_nil)) (by show 2 ≤ 100000; decide))
  | window n s =>
    obtain ⟨a, b, rfl, w1, w2, w3, w4⟩ := wf
    refine sr_when (b := false) (Evl.et_is (et_test (ed_op (ed_op (ed_var rfl h_part) ed_int (rd_ixT rfl)) ed_str (rd_eq (cs sok_w sok_g)))) (str_ne ne_gw.symm)) (fun q => by cases q) fun _ => ?_
    refine sr_when (b := false) (Evl.et_is (et_test (ed_op (ed_op (ed_var rfl h_part) ed_int (rd_ixT rfl)) ed_str (rd_eq (cs sok_w sok_s)))) (str_ne ne_sw.symm)) (fun q => by cases q) fun _ => ?_
    exact sr_ret (ed_tup (eda_cons (ed_op (ed_op (ed_var rfl h_one) ed_int (rd_ixT rfl)) (ed_if (b := true) (d := .int 1) (Evl.et_is (et_test (ed_op (ed_op (ed_var rfl h_part) ed_int (rd_ixT rfl)) ed_str (rd_eq (cs sok_w sok_w)))) str_eq) (fun _ => ed_int) (fun q => by cases q)) rd_add) (eda_cons (ed_op (ed_var rfl h_one) ed_int (rd_ixT rfl)) eda_nil)) (by show 2 ≤ 100000; decide))
  | slide n s =>
    obtain ⟨as, rfl, w1, w2⟩ := wf
    obtain ⟨o1, o2, o3, o4⟩ := ok
    refine sr_when (b := false) (Evl.et_is (et_test (ed_op (ed_op (ed_var rfl h_part) ed_int (rd_ixT rfl)) ed_str (rd_eq (cs sok_s sok_g)))) (str_ne ne_gs.symm)) (fun q => by cases q) fun _ => ?_
    exact sr_when (b := true) (Evl.et_is (et_test (ed_op (ed_op (ed_var rfl h_part) ed_int (rd_ixT rfl)) ed_str (rd_eq (cs sok_s sok_s)))) str_eq) (fun _ => sr_ret (ed_op (ed_var rfl h_one) (ed_tup (eda_cons ed_int eda_nil) (by show 1 ≤ 100000; decide)) (rd_cat (by simp; omega)))) fun q => by cases q
  | gap s =>
    obtain ⟨a, rfl, w1, w2⟩ := wf
    exact sr_when (b := true) (Evl.et_is (et_test (ed_op (ed_op (ed_var rfl h_part) ed_int (rd_ixT rfl)) ed_str (rd_eq (cs sok_g sok_g)))) str_eq) (fun _ => sr_ret (ed_op (ed_var rfl h_part) ed_int (rd_ixT rfl))) fun q => by cases q
end
end K3

set_option Elab.async false
set_option linter.all false
set_option maxRecDepth 100000
set_option maxHeartbeats 200000
/-! The law's first states. -/
namespace K3
open PySem PySem.Spec PyProof.Rows L2 He
section
variable {X : Cx} {C CC aS aT : Addr} {H : Hp} {vs : List V} {ds : List D} {r : D}
theorem sr_dget {G : Gs} {σ : L2.St} {H : Hp} {tl ty : TE} {rc : List V → Hp → VK → Prop} {ds : List D} {r : D} (hl : EdN G tl σ H ds)
    (k : ∀ p us H1 H2 (Q : VK), Same H H1 → Same H1 H2 → H2 p = some (.lst us) → DAll G H2 us ds → (∀ v H', Same H1 H' → DAt G H' v r → Q v H') → rc [.ref p] H2 (fun w H3 => ty σ H3 fun y H4 => ∃ a v, w = .ref a ∧ DGet H4 a y (some v) ∧ Q v H4)) :
    SRet G (tRet (tDGet (tCB rc (tCons tl tNil)) ty)) σ H r := fun Dd H1 s q => hl H1 s _ fun p us H2 n s2 hp da => k p us H1 H2 Dd.rt s s2 hp da q
theorem p_Lnew (hm : m_first_of ds r) (h : DAll (gs X C) H vs ds) : SRet (gs X C) (t_Lnew X C CC aS aT) (start N_Lnew vs) H r := by
  obtain ⟨p, rfl, rfl⟩ := hm
  obtain ⟨x, rfl, h_part⟩ := one_of h
  have e1 : ∃ n : Int, atI (unT (dPt p)) 1 = some (.int n) ∧ (∀ n s, p = .bucket n s → n = n) := by
    cases p with
    | bucket n s => exact ⟨n, rfl, fun _ _ _ => rfl⟩
    | window n s => exact ⟨n, rfl, fun _ _ _ => rfl⟩
    | slide n s => exact ⟨n, rfl, fun _ _ _ => rfl⟩
    | gap s => exact ⟨s, rfl, fun _ _ _ => rfl⟩
  have dp : dPt p = .tup (unT (dPt p)) := by cases p <;> rfl
  obtain ⟨n, e1, _⟩ := e1
  have hp' : DAt (gs X C) H x (.tup (unT (dPt p))) := dp ▸ h_part
  have made : EdN (gs X C) (tLst (tCons (tTup (tCons (tC (.str "bucket")) (tCons (tTup (tCons (tOp (rIxU (gs X C)) (tVar 0) (tC (.int 1))) (tCons (tC (.int 0)) tNil))) tNil))) (tCons (tTup (tCons (tC (.str "window")) (tCons (tTup (tCons (tC (.int 0)) (tCons (tC (.int 0)) tNil))) tNil))) (tCons (tTup (tCons (tC (.str "slide")) (tCons (tTup tNil) tNil))) (tCons (tTup (tCons (tC (.str "gap")) (tCons (tC (.int 0)) tNil))) tNil)))))
      [some x] H [.tup [.str "bucket", .tup [.int n, .int 0]], .tup [.str "window", .tup [.int 0, .int 0]], .tup [.str "slide", .tup []], .tup [.str "gap", .int 0]] :=
    edn_lst (eda_cons (ed_tup (eda_cons ed_str (eda_cons (ed_tup (eda_cons (ed_op (ed_var rfl hp') ed_int (rd_ixT e1)) (eda_cons ed_int eda_nil)) (by show 2 ≤ 100000; decide)) eda_nil)) (by show 2 ≤ 100000; decide))
      (eda_cons (ed_tup (eda_cons ed_str (eda_cons (ed_tup (eda_cons ed_int (eda_cons ed_int eda_nil)) (by show 2 ≤ 100000; decide)) eda_nil)) (by show 2 ≤ 100000; decide))
        (eda_cons (ed_tup (eda_cons ed_str (eda_cons (ed_tup eda_nil (by show 0 ≤ 100000; decide)) eda_nil)) (by show 2 ≤ 100000; decide)) (eda_cons (ed_tup (eda_cons ed_str (eda_cons ed_int eda_nil)) (by show 2 ≤ 100000; decide)) eda_nil)))) (by show 4 ≤ 100000; decide)
  refine sr_dget made fun l us H1 H2 Q s1 s2 hl da q => ?_
  obtain ⟨v1, v2, v3, v4, rfl, d1, d2, d3, d4⟩ := four_of da
  obtain ⟨p1, u1, rfl, t1, b1⟩ := pair_of d1
  obtain ⟨p2, u2, rfl, t2, b2⟩ := pair_of d2
  obtain ⟨p3, u3, rfl, t3, b3⟩ := pair_of d3
  obtain ⟨p4, u4, rfl, t4, b4⟩ := pair_of d4
  refine ⟨l, [p1, p2, p3, p4], (kvs4 u1 u2 u3 u4), rfl, .inl (.inl hl), .cons t1 (.cons t2 (.cons t3 (.cons t4 .nil))), fun a ha => ?_⟩
  rw [merge4]
  have s3 : Same H2 (upd H2 a (.dK (kvs4 u1 u2 u3 u4))) := .new ha
  have go : ∀ (x' : Str) (u : V) (d : D), atI (unT (dPt p)) 0 = some (.str x') → valV (kvs4 u1 u2 u3 u4) (.inr x') = some u → DAt (gs X C) H2 u d → firstP p = d →
      tOp (rIxU (gs X C)) (tVar 0) (tC (.int 0)) [some x] (upd H2 a (.dK (kvs4 u1 u2 u3 u4))) (fun y H4 => ∃ a' v, V.ref a = .ref a' ∧ DGet H4 a' y (some v) ∧ Q v H4) := fun x' u d e2 e3 du e4 => by
    refine ed_op (G := gs X C) (ed_var (σ := [some x]) rfl (hp'.mn (s1.trans (s2.trans s3)))) ed_int (rd_ixT e2) _ (Same.refl _) _ fun y H4 s4 dy => ?_
    cases dy
    refine ⟨a, u, rfl, ?_, ?_⟩
    · rw [← e3]; exact DGet.k (k := .inr x') (s4 a _ upd_same)
    · exact q u H4 (s2.trans (s3.trans s4)) (by rw [e4]; exact (du.mn s3).mn s4)
  cases p with
  | bucket n' s => have e1 : some (D.int n') = some (D.int n) := e1; cases e1; exact go "bucket" u1 _ rfl (val4 u1 u2 u3 u4).1 b1 rfl
  | window n' s => exact go "window" u2 _ rfl (val4 u1 u2 u3 u4).2.1 b2 rfl
  | slide n' s => exact go "slide" u3 _ rfl (val4 u1 u2 u3 u4).2.2.1 b3 rfl
  | gap s => exact go "gap" u4 _ rfl (val4 u1 u2 u3 u4).2.2.2 b4 rfl
end
end K3

set_option Elab.async false
set_option linter.all false
set_option maxRecDepth 100000
set_option maxHeartbeats 1000000
/-! The law's steps: what each def answers. -/
namespace K3
open PySem PySem.Spec PyProof.Rows L2 He
section
variable {G : Gs} {σ : L2.St} {H : Hp} {te ta tl : TE} {tt : TT} {z : TS} {r d : D} {b : Bool} {ds es res : List D}
/-- a test, then one of two; both go on -/
theorem q_if2 {tu tw : TS} {Dd : Ends} (h : EdT tt σ H b) (h1 : b = true → ∀ H1, Same H H1 → tu Dd σ H1) (h2 : b = false → ∀ H1, Same H H1 → tw Dd σ H1) : tIfS tt tu tw Dd σ H := h H (Same.refl H) _ fun H2 s2 => by
  cases b with
  | true => exact iteT (h1 rfl H2 s2)
  | false => exact iteF (h2 rfl H2 s2)
/-- name = e, the rest -/
theorem q_set {i : Nat} {Dd : Ends} (h : Ed G te σ H d) (k : ∀ v H1, Same H H1 → DAt G H1 v d → z Dd (σ.set i (some v)) H1) : tSeq (tAsg te (gName i)) z Dd σ H := h H (Same.refl H) _ fun v H1 s dv => k v H1 s dv
/-- enumerate over a tuple -/
theorem for_enT {a : Addr} {xs : List V} {K : PySem.W.Frag} {g : TG} {tb : TS} {Dd : Ends} (Pv : Nat → L2.St → Hp → Prop) (h0 : Pv 0 σ H) (hl : ∀ i σ H, Pv i σ H → SqT K H a xs)
    (hs : ∀ (i : Nat) (x : V) (T : Addr) (σ : L2.St) (H : Hp), xs[i]? = some x → Pv i σ H → H T = none → g (.ref T) σ (upd H T (.tup [.int (i : Nat), x])) fun σ2 H2 => tb { Dd with nx := Pv (i + 1), ct := Pv (i + 1), bk := Dd.nx } σ2 H2) (hd : ∀ σ H, Pv xs.length σ H → Dd.nx σ H) :
    ∃ W : Nat → Nat → L2.St → Hp → Prop, (∃ m, W 0 m σ H) ∧ ∀ i m σ H, W i m σ H →
      ((ItE K a).stop i H ∧ Dd.nx σ H) ∨ ((ItE K a).go i H ∧ ∃ N : L2.St → Hp → Prop, (∀ σ' H', N σ' H' → ∃ m', m' < m ∧ W (i + 1) m' σ' H') ∧ ∀ v H', (ItE K a).yld i H v H' → g v σ H' fun σ2 H2 => tb { Dd with nx := N, ct := N, bk := Dd.nx } σ2 H2) := by
  refine ⟨fun i m σ H => m = xs.length - i ∧ i ≤ xs.length ∧ Pv i σ H, ⟨xs.length, rfl, Nat.zero_le _, h0⟩, ?_⟩
  rintro i m σ H ⟨rfl, hi, p⟩
  have q := hl i σ H p
  by_cases hlt : i < xs.length
  · have hx : xs[i]? = some xs[i] := List.getElem?_eq_getElem hlt
    refine .inr ⟨⟨xs, _, q, hx⟩, Pv (i + 1), fun σ' H' p' => ⟨xs.length - (i + 1), by omega, rfl, hlt, p'⟩, fun v H' y => ?_⟩
    obtain ⟨T, x', rfl, hT, rfl, f1⟩ := y
    exact hs i x' T σ H (f1 xs q) p hT
  · have e : i = xs.length := by omega
    subst e
    exact .inl ⟨⟨xs, q, rfl⟩, hd σ H p⟩
theorem rc_lstT : RDC G (rLstU G) [.tup ds] (.lst ds) := fun H us Q h q => .inl (by
  cases h with
  | cons h1 h2 =>
    cases h2
    cases h1 with
    | tup k1 k2 => exact ⟨_, _, rfl, .inr k1, fun l hl => q _ _ (.new hl) (.lst (.inl (.inl upd_same)) (k2.mn (.new hl)))⟩)
theorem edn_lstT {ts : TE} (h : Ed G ts σ H (.tup ds)) : EdN G (tCB (rLstU G) (tCons ts tNil)) σ H ds := fun H1 s Q q =>
  h H1 s _ fun v H2 s2 dv => .inl (by
    cases dv with
    | tup k1 k2 => exact ⟨_, _, rfl, .inr k1, fun l hl => q l _ _ (s2.free hl) (s2.trans (.new hl)) upd_same (k2.mn (.new hl))⟩)
end
section
variable {X : Cx} {C CC aS aT : Addr} {H : Hp} {vs : List V} {ds : List D} {r : D}
theorem p_Ltick (hm : m_after_tick ds r) (h : DAll (gs X C) H vs ds) : SRet (gs X C) (t_Ltick X C CC aS aT (spD (gs X C) m_ticked)) (start N_Ltick vs) H r := by
  obtain ⟨c, d, ok, wf, rfl, rfl⟩ := hm
  obtain ⟨x, y, rfl, h_chain, h_value⟩ := two_of h
  obtain ⟨es, rfl, wf⟩ := wf
  have h3 := ok.r3
  have hf := ok.f2
  have hle := wf.length
  refine sr_asgN (edn_lst eda_nil (by show 0 ≤ 100000; decide)) fun p us H0 H1 s0 n s1 hp da Dd q => ?_
  cases da
  have hc0 := h_chain.mn s0
  have hv0 := h_value.mn s0
  have kd : kydAll 2 (tickR c.rows es) = true := wfR_kyd (wfR_tick ok.ok wf)
  refine for_appZ (G := gs X C) (H0 := H0) (res := tickR c.rows es) (ds := c.rows.map dLk) (es := es) (l := p) (fun σ' => ∃ a b e, σ' = [some x, some y, some (.ref p), a, b, e]) (immAll_kyd kd) (imm_rows c) (immAll_kyd (wfR_kyd wf)) (by rw [tickR_len hle]; simp) (by simp; omega) (by simp; omega)
    (eda_cons (ed_links (G := gs X C) (ed_var rfl (hc0.mn s1))) (eda_cons (ed_var rfl (hv0.mn s1)) eda_nil)) s1 n hp ⟨_, _, _, rfl⟩ (fun i d e r x' σ' H' acc Nx hd he hr g s' dx hl hz k => ?_) (fun σ' H' acc g s' hl da => ?_)
  · obtain ⟨a, b, e', rfl⟩ := g
    rw [List.getElem?_map] at hd
    obtain ⟨l, e1, rfl⟩ := Option.map_eq_some_iff.mp hd
    rw [tickR_get e1 he] at hr
    cases hr
    obtain ⟨e0, e2, wl⟩ := wf.get e1
    rw [he] at e2; cases e2
    have okl := ok.ok l (List.mem_of_getElem? e1)
    unfold WfL at wl
    refine g_pair (G := gs X C) dx fun u v h_row h_one => q_if2 (b := !l.each) (Evl.et_is (et_test (ed_op (ed_op (ed_var rfl h_row) ed_int (rd_ixT rfl)) ed_str (rd_eq (cs (sok_sc l.each) sok_all)))) (sc_all l.each)) (fun hb H5 s5 => ?_) (fun hb H5 s5 => ?_)
    · have hb : l.each = false := by simpa using hb
      rw [hb] at wl
      refine app_body (G := gs X C) (li := 2) (l := p) rfl (s5 p _ hl) hz (d := tickL l e) (Ed.is (ed_call (eda_cons (ed_op (ed_var rfl (h_row.mn s5)) ed_int (rd_ixT rfl)) (eda_cons (ed_var rfl (h_one.mn s5)) eda_nil)) ⟨l.p, e, wl, okl, rfl, rfl⟩) ?_) fun w H2 s2 dw => k _ w H2 ⟨_, _, _, rfl⟩ (Same.trans s5 s2) dw
      unfold tickL; rw [hb]; rfl
    · have hb : l.each = true := by simpa using hb
      rw [hb, if_pos rfl] at wl
      obtain ⟨fs, rfl, hl2, wl⟩ := wl
      have e3 : tickL l (.tup fs) = .tup (fs.filterMap fun d => some (tickP l.p d)) := by
        unfold tickL mapT; rw [hb, if_pos rfl, List.filterMap_eq_map']
      rw [e3] at k
      refine app_body (G := gs X C) (li := 2) (l := p) rfl (s5 p _ hl) hz (ed_cb (eda_cons (EdN.ed (ed_lcT (G := gs X C) (fun d => some (tickP l.p d)) (by omega) (ed_var rfl (h_one.mn s5)) (immAll_iff.mpr fun d hd => imm_kyd (wf_kyd (wl d hd))) (fun d hd r hr => ?_) (fun d hd z H2 s2 dz => ?_))) eda_nil) rc_tupL) fun w H2 s2 dw => k _ w H2 ⟨_, _, _, rfl⟩ (Same.trans s5 s2) dw
      · cases hr; exact imm_kyd (wf_kyd (wf_tick okl (wl d hd)))
      · refine ct_name rfl et_yes fun r hr => ?_
        cases hr
        exact ed_call (eda_cons (ed_op (ed_var rfl ((h_row.mn s5).mn s2)) ed_int (rd_ixT rfl)) (eda_cons (ed_var rfl dz) eda_nil)) ⟨l.p, d, wl d hd, okl, rfl, rfl⟩
  · obtain ⟨a, b, e, rfl⟩ := g
    exact sr_ret (ed_cb (eda_cons (ed_var rfl (.lst (.inl (.inl hl)) da)) eda_nil) rc_tupL) Dd H' (Same.refl H') fun v H2 s2 dv => q v H2 (s'.trans s2) dv
theorem p_Lstep (hm : m_after_event ds r) (h : DAll (gs X C) H vs ds) : SRet (gs X C) (t_Lstep X C CC aS aT (spD (gs X C) m_after_tick) (spD (gs X C) m_after_ask)) (start N_Lstep vs) H r := by
  obtain ⟨c, d, e, ok, hw, he, rfl, rfl⟩ := hm
  obtain ⟨x, y, z, rfl, h_chain, h_value, h_event⟩ := three_of h
  refine sr_when (b := decide (e = .tick)) (Evl.et_is (et_test (ed_op (ed_var rfl h_event) (ed_tup (eda_cons ed_str eda_nil) (by show 1 ≤ 100000; decide)) (rd_eq (ce e .tick)))) (decB ⟨ev_inj (f := .tick), fun q => by rw [q]; rfl⟩)) (fun hb => ?_) (fun hb => ?_)
  · have hb := of_decide_eq_true hb
    subst hb
    exact sr_ret (ed_tup (eda_cons ed_non (eda_cons (ed_call (eda_cons (ed_var rfl h_chain) (eda_cons (ed_var rfl h_value) eda_nil)) ⟨c, d, ok, hw, rfl, rfl⟩) eda_nil)) (by show 2 ≤ 100000; decide))
  · have hb := of_decide_eq_false hb
    rcases mem_evs.mp he with q | ⟨k, hk, rfl⟩
    · exact absurd q hb
    · exact sr_ret (ed_call (eda_cons (ed_var rfl h_chain) (eda_cons (ed_var rfl h_value) (eda_cons (ed_op (ed_var rfl h_event) ed_int (rd_ixT rfl)) eda_nil))) ⟨c, d, k, ok, hw, hk, rfl, rfl⟩)
/-- what stands behind i turns of the law's loop over the links -/
def LaskI (G : Gs) (x y z : V) (p : Addr) (c : Ch) (k : Nat) (es : List D) (H0 H2 : Hp) (i : Nat) (σ' : L2.St) (H' : Hp) : Prop :=
  Same H0 H' ∧ Le H2 H' ∧ ∃ g5 g6 g7 g8 acc cur, σ' = [some x, some y, some z, some (.ref p), some (.bl true), g5, g6, g7, g8] ∧ H' p = some (.lst acc) ∧ DAll G H' acc cur ∧ WfR c.folk c.rows cur ∧ ∃ pre, cur = pre ++ es.drop i ∧ pre.length = i ∧
    askR c.rows k es = ((askR (c.rows.drop i) k (es.drop i)).1, pre ++ (askR (c.rows.drop i) k (es.drop i)).2)
theorem p_Lask (hm : m_after_ask ds r) (h : DAll (gs X C) H vs ds) : SRet (gs X C) (t_Lask X C CC aS aT (spD (gs X C) m_does_let) (spD (gs X C) m_counted)) (start N_Lask vs) H r := by
  obtain ⟨c, d, k, ok, hw, hk, rfl, rfl⟩ := hm
  obtain ⟨x, y, z, rfl, h_chain, h_value, h_who⟩ := three_of h
  obtain ⟨es, rfl, wf⟩ := hw
  have h3 := ok.r3
  have hf := ok.f2
  have hle := wf.length
  intro Dd H0 s0 q
  have h_chain := h_chain.mn s0
  have h_value := h_value.mn s0
  have h_who := h_who.mn s0
  -- rows, is_let = list(value), True
  refine edn_lstT (G := gs X C) (σ := [some x, some y, some z, none, none, none, none, none, none]) (ed_var rfl h_value) H0 (Same.refl H0) _ fun p us H1 n s1 hp da => ?_
  refine ⟨.ref p, .bl true, rfl, ?_⟩
  -- enumerate(links)
  refine ed_links (G := gs X C) (σ := [some x, some y, some z, some (.ref p), some (.bl true), none, none, none, none]) (ed_var rfl (h_chain.mn s1)) H1 (Same.refl H1) _ fun v H2 s2 dv => ?_
  cases dv with
  | @tup a xs _ t1 t2 =>
    have base : Same H0 H2 := s1.trans s2
    have kdr : kydAll 2 (askR c.rows k es).2 = true := wfR_kyd (wfR_ask hk ok.ok wf)
    -- behind the loop
    have fin : ∀ (b : Bool) g5 g6 g7 g8 H' acc, Same H0 H' → H' p = some (.lst acc) → DAll (gs X C) H' acc (askR c.rows k es).2 → b = (askR c.rows k es).1 →
        tRet (tTup (tCons (tVar 4) (tCons (tIf (tOr (tB (tVar 4)) (tB (tProp C (getSp C "costly") [] C8.E0 (tVar 0)))) (tCB (rTupU (gs X C)) (tCons (tVar 3) tNil)) (tVar 1)) tNil))) Dd [some x, some y, some z, some (.ref p), some (.bl b), g5, g6, g7, g8] H' := fun b g5 g6 g7 g8 H' acc s' hl dl hb => by
      subst hb
      refine (sr_ret (G := gs X C) (ed_tup (ds := [.bl (askR c.rows k es).1, (askS c k (.tup es)).2]) (eda_cons (ed_var rfl (.bl _)) (eda_cons (ed_if (b := (askR c.rows k es).1 || c.costly) (Evl.et_or (et_B (G := gs X C) (ed_var rfl (.bl _))) fun _ => (et_B (ed_charges (G := gs X C) (ed_var rfl (h_chain.mn s'))))) (fun hb => ?_) (fun hb => ?_)) eda_nil)) (by show 2 ≤ 100000; decide))) Dd H' (Same.refl H') fun v H5 s5 dv => q v H5 (s'.trans s5) dv
      · refine Ed.is (ed_cb (eda_cons (ed_var rfl (.lst (.inl (.inl hl)) dl)) eda_nil) rc_tupL) ?_
        exact (if_pos hb : (askS c k (.tup es)).2 = _).symm
      · refine Ed.is (ed_var rfl (h_value.mn s')) ?_
        exact (if_neg (by rw [show ((askR c.rows k (unT (.tup es))).1 || c.costly) = ((askR c.rows k es).1 || c.costly) from rfl, hb]; decide) : (askS c k (.tup es)).2 = _).symm
    refine ⟨a, xs, rfl, t1, for_enT (xs := xs) (LaskI (gs X C) x y z p c k es H0 H2) ⟨base, Le.refl H2, _, _, _, _, us, es, rfl, s2 p _ hp, da.mn s2, wf, [], rfl, rfl, rfl⟩ (fun i σ' H' p => p.2.1.tp t1) (fun i x' T σ' H' hx pv nT => ?_) (fun σ' H' pv => ?_)⟩
    · obtain ⟨s4, le4, g5, g6, g7, g8, acc, cur, rfl, hl, dl, wc, pre, e3, e4, e5⟩ := pv
      obtain ⟨d0, hd0, dx⟩ := t2.getV hx
      rw [List.getElem?_map] at hd0
      obtain ⟨l, e1, rfl⟩ := Option.map_eq_some_iff.mp hd0
      have hi : i < c.rows.length := (List.getElem?_eq_some_iff.mp e1).1
      have sT : Same H' (upd H' T (.tup [.int (i : Nat), x'])) := .new nT
      have hie : i < es.length := by omega
      have he : es[i]? = some (dAt es i) := by unfold dAt; rw [List.getD_eq_getElem?_getD, List.getElem?_eq_getElem hie]; rfl
      have hcur : cur[i]? = some (dAt es i) := by
        rw [e3, List.getElem?_append_right (by omega), e4, Nat.sub_self, List.getElem?_drop, Nat.add_zero]; exact he
      have ed := askR_drop (k := k) e1 he
      obtain ⟨d1, e7, wl⟩ := wc.get e1
      rw [hcur] at e7; cases e7
      have okl := ok.ok l (List.mem_of_getElem? e1)
      have lenacc := dl.length
      have lencur := wc.length
      generalize hHT : upd H' T (.tup [.int (i : Nat), x']) = HT at sT
      have dpair : DAt (gs X C) HT (.ref T) (.tup [.int (i : Int), dLk l]) := by
        rw [← hHT]
        exact .tup (.inl (.inl upd_same)) (.cons (.int _) (.cons ((dx.lm (imm_dLk l) le4).mn (.new nT)) .nil))
      refine g_pair (G := gs X C) dpair fun u v h_at h_row => ?_
      cases h_at
      have hlT : HT p = some (.lst acc) := sT p _ hl
      have dlT := dl.mn sT
      have hwT := h_who.mn (s4.trans sT)
      show tSeq _ _ _ [some x, some y, some z, some (.ref p), some (.bl true), some (.int (i : Int)), some v, g7, g8] HT
      -- the one that is asked
      have hone : ∃ e0, WfP l.p e0 ∧ letsL l k (dAt es i) = letsP l.p e0 ∧ (l.each = false → e0 = dAt es i) ∧ (l.each = true → ∃ fs, dAt es i = .tup fs ∧ fs.length = c.folk ∧ fs[k]? = some e0 ∧ countL l k (dAt es i) = .tup (fs.set k (countP l.p e0))) := by
        unfold WfL at wl
        unfold letsL countL
        cases hb : l.each with
        | false => rw [hb] at wl; exact ⟨_, wl, rfl, fun _ => rfl, fun q => by cases q⟩
        | true =>
          rw [hb, if_pos rfl] at wl
          obtain ⟨fs, hfs, hl2, wl⟩ := wl
          rw [hfs]
          have hk2 : k < fs.length := by omega
          have e6 : fs[k]? = some (dAt fs k) := by unfold dAt; rw [List.getD_eq_getElem?_getD, List.getElem?_eq_getElem hk2]; rfl
          exact ⟨dAt fs k, wl _ (mem_dAt hk2), rfl, fun q => (by cases q), fun _ => ⟨fs, rfl, hl2, e6, rfl⟩⟩
      obtain ⟨e0, we, el, eF, eT⟩ := hone
      refine q_set (G := gs X C) (d := e0) (ed_if (b := !l.each) (Evl.et_is (et_test (ed_op (ed_op (ed_var rfl h_row) ed_int (rd_ixT rfl)) ed_str (rd_eq (cs (sok_sc l.each) sok_all)))) (sc_all l.each)) (fun hb => ?_) (fun hb => ?_)) fun o H5 s5 h_one => ?_
      · have hb : l.each = false := by simpa using hb
        rw [eF hb]
        exact ed_op (ed_var rfl (.lst (.inl (.inl hlT)) dlT)) (ed_var rfl (.int _)) (rd_ixL (atI_nat hcur))
      · have hb : l.each = true := by simpa using hb
        obtain ⟨fs, q1, q2, q3, q4⟩ := eT hb
        rw [q1] at hcur
        exact ed_op (ed_op (ed_var rfl (.lst (.inl (.inl hlT)) dlT)) (ed_var rfl (.int _)) (rd_ixL (atI_nat hcur))) (ed_var rfl hwT) (rd_ixT (atI_nat q3))
      have h_row5 := h_row.mn s5
      show tSeq _ _ _ [some x, some y, some z, some (.ref p), some (.bl true), some (.int (i : Int)), some v, some o, g8] H5
      refine Evl.q_when (b := !(letsP l.p e0)) (Evl.et_not (et_B (ed_call (G := gs X C) (dom := m_does_let) (eda_cons (ed_op (ed_var rfl h_row5) ed_int (rd_ixT rfl)) (eda_cons (ed_var rfl h_one) eda_nil)) ⟨l.p, e0, we, okl, rfl, rfl⟩))) (fun hb H6 s6 => ?_) (fun hb H6 s6 => ?_)
      · have hb : letsP l.p e0 = false := by simpa using hb
        rw [el, hb, if_neg (by decide)] at ed
        refine fin false _ _ _ _ H6 acc (s4.trans (sT.trans (s5.trans s6))) (s6 p _ (s5 p _ hlT)) ?_ ?_
        · rw [e5, ed]
          have := (dlT.mn s5).mn s6
          rw [e3] at this; exact this
        · rw [e5, ed]
      · have hb : letsP l.p e0 = true := by simpa using hb
        have hlet : letsL l k (dAt es i) = true := by rw [el, hb]
        rw [el, hb, if_pos rfl] at ed
        have h_row6 := h_row5.mn s6
        have h_one6 := h_one.mn s6
        refine q_set (G := gs X C) (d := countP l.p e0) (ed_call (dom := m_counted) (eda_cons (ed_op (ed_var rfl h_row6) ed_int (rd_ixT rfl)) (eda_cons (ed_var rfl h_one6) eda_nil)) ⟨l.p, e0, we, okl, rfl, rfl⟩) fun la H7 s7 h_late => ?_
        have h_row7 := h_row6.mn s7
        have s57 : Same HT H7 := s5.trans (Same.trans s6 s7)
        have hl7 : H7 p = some (.lst acc) := s57 p _ hlT
        have dl7 := dlT.mn s57
        show tSeq _ _ _ [some x, some y, some z, some (.ref p), some (.bl true), some (.int (i : Int)), some v, some o, some la] H7
        -- the store
        have store : ∀ (Ee : Ends) (w : V) (g8' : Option V) (H8 : Hp), Ee.nx = LaskI (gs X C) x y z p c k es H0 H2 (i + 1) → Same H7 H8 → DAt (gs X C) H8 w (countL l k (dAt es i)) → g8' = some w →
            tAsg (tVar 8) (gSub (tVar 3) (tVar 5) rSetL) Ee [some x, some y, some z, some (.ref p), some (.bl true), some (.int (i : Int)), some v, some o, g8'] H8 := fun Ee w g8' H8 hE s8 dw e8 => by
          subst e8
          refine ⟨w, rfl, .ref p, rfl, .int (i : Int), rfl, p, acc, (i : Int), i, rfl, rfl, s8 p _ hl7, ?_, ?_⟩
          rotate_left
          · show Ee.nx _ _
            rw [hE]
            have e8 : H8 p = some (.lst acc) := s8 p _ hl7
            have le : Le H8 (upd H8 p (.lst (acc.set i w))) := .wr fun u e f => by rw [e8] at e; cases e; exact f
            have s08 : Same H0 H8 := s4.trans (sT.trans (s57.trans s8))
            have kc : kyd 2 (countL l k (dAt es i)) = true := wfL_kyd (wfL_count okl hk wl hlet)
            have kcur := wfR_kyd (wfR_set (i := 0) wc e1 (wfL_count okl hk wl hlet))
            refine ⟨s08.mut n, (le4.trans (Le.of (sT.trans (s57.trans s8)))).trans le, _, _, _, _, _, cur.set i (countL l k (dAt es i)), rfl, upd_same, ((dl7.mn s8).set dw i).lm (immAll_kyd kcur) le, wfR_set (i := 0) wc e1 (wfL_count okl hk wl hlet), pre ++ [countL l k (dAt es i)], ?_, by rw [List.length_append, e4]; rfl, ?_⟩
            · rw [e3, List.set_append_right _ _ (by omega), e4, Nat.sub_self, List.drop_eq_getElem_cons hie, List.set_cons_zero, List.append_assoc]; rfl
            · rw [e5, ed, List.append_assoc]; rfl
          · unfold ixN
            rw [if_pos (by omega), if_pos (by omega), Int.toNat_natCast]
        refine Evl.q_when (b := l.each) (Evl.et_is (et_test (ed_op (G := gs X C) (ed_op (ed_var rfl h_row7) ed_int (rd_ixT rfl)) ed_str (rd_eq (cs (sok_sc l.each) sok_each)))) (sc_each l.each)) (fun hb2 H8 s8 => ?_) (fun hb2 H8 s8 => ?_)
        · obtain ⟨fs, q1, q2, q3, q4⟩ := eT hb2
          have hk2 : k < fs.length := by omega
          rw [q1] at hcur
          have hl8 : H8 p = some (.lst acc) := s8 p _ hl7
          have dl8 := dl7.mn s8
          have hw8 := ((hwT.mn s57).mn s8)
          have rowd : Ed (gs X C) (tOp (rIxU (gs X C)) (tVar 3) (tVar 5)) [some x, some y, some z, some (.ref p), some (.bl true), some (.int (i : Int)), some v, some o, some la] H8 (.tup fs) := ed_op (ed_var rfl (.lst (.inl (.inl hl8)) dl8)) (ed_var rfl (.int _)) (rd_ixL (atI_nat hcur))
          have e9 : countL l k (dAt es i) = .tup ((cutD fs none (some (k : Int)) ++ [countP l.p e0]) ++ cutD fs (some ((k : Int) + 1)) none) := by
            rw [q4, cut_to (by omega), show cutD fs (some ((k : Int) + 1)) none = fs.drop (k + 1) from cut_from (k := k + 1) (by omega), List.append_assoc]
            exact congrArg D.tup (set_cut hk2).symm
          have c1 : (cutD fs none (some (k : Int))).length ≤ fs.length := by rw [cut_to (by omega), List.length_take]; omega
          have c2 : (cutD fs (some ((k : Int) + 1)) none).length ≤ fs.length := by rw [show cutD fs (some ((k : Int) + 1)) none = fs.drop (k + 1) from cut_from (k := k + 1) (by omega), List.length_drop]; omega
          refine (ed_op (ed_op (ed_slT rowd edp_none (edp_some (ed_var rfl hw8))) (ed_tup (eda_cons (ed_var rfl (h_late.mn s8)) eda_nil) (by show 1 ≤ 100000; decide)) (rd_cat (by show _ + 1 ≤ 100000; omega))) (ed_slT rowd (edp_some (ed_op (ed_var rfl hw8) ed_int rd_add)) edp_none) (rd_cat (by rw [List.length_append]; show _ + 1 + _ ≤ 100000; omega))) H8 (Same.refl H8) _ fun w H9 s9 dw => ?_
          exact store _ w _ H9 rfl (Same.trans s8 s9) (by rw [e9]; exact dw) rfl
        · refine store _ la _ H8 rfl s8 ?_ rfl
          have e9 : countL l k (dAt es i) = countP l.p e0 := by
            rw [eF hb2]; unfold countL; rw [hb2]; rfl
          rw [e9]; exact h_late.mn s8
    · obtain ⟨s4, le4, g5, g6, g7, g8, acc, cur, rfl, hl, dl, wc, pre, e3, e4, e5⟩ := pv
      have exs : xs.length = c.rows.length := by rw [t2.length, List.length_map]
      rw [exs] at e3 e5
      have e6 : askR (c.rows.drop c.rows.length) k (es.drop c.rows.length) = (true, es.drop c.rows.length) := by rw [List.drop_length]; rfl
      refine fin true _ _ _ _ H' acc s4 hl ?_ ?_
      · rw [e5, e6]; rw [e3] at dl; exact dl
      · rw [e5, e6]
end
end K3

set_option Elab.async false
set_option linter.all false
set_option maxRecDepth 100000
set_option maxHeartbeats 1000000
/-! Dicts in a body: written, kept, read. -/
namespace K3
open PySem PySem.Spec PyProof.Rows L2 He

/-! ### keys -/
theorem kix_idx {n m : Nat} {k : D} (hk : kyd m k = true) : ∀ {ks : List D}, kydAll n ks = true → kix ks (key k) = if k ∈ ks then some (ks.idxOf k) else none
  | [], _ => rfl
  | d :: ks, h => by
    rw [kydAll, Bool.and_eq_true] at h
    by_cases e : d = k
    · subst e
      rw [kix_hit rfl, if_pos List.mem_cons_self, List.idxOf_cons_self]
    · have e' : key d ≠ key k := fun q => e (key_inj d k n m h.1 hk q)
      rw [kix_miss e', kix_idx hk h.2]
      by_cases q : k ∈ ks
      · rw [if_pos q, if_pos (List.mem_cons_of_mem _ q), List.idxOf_cons, beq_eq_false_iff_ne.mpr e]; rfl
      · rw [if_neg q, if_neg (fun z => by rcases List.mem_cons.mp z with z | z; exact e z.symm; exact q z)]; rfl
theorem kix_mem {n m : Nat} {k : D} {ks : List D} (hk : kyd m k = true) (h : kydAll n ks = true) : (kix ks (key k)).isSome = decide (k ∈ ks) := by
  rw [kix_idx hk h]
  by_cases q : k ∈ ks
  · rw [if_pos q, decide_eq_true q]; rfl
  · rw [if_neg q, decide_eq_false q]; rfl
theorem dput_new {n m : Nat} {k v : D} {ks vs : List D} (hk : kyd m k = true) (h : kydAll n ks = true) (q : k ∉ ks) : dput ks vs k v = (ks ++ [k], vs ++ [v]) := by
  unfold dput; rw [kix_idx hk h, if_neg q]
theorem dput_old {n m : Nat} {k v : D} {ks vs : List D} (hk : kyd m k = true) (h : kydAll n ks = true) (q : k ∈ ks) : dput ks vs k v = (ks, vs.set (ks.idxOf k) v) := by
  unfold dput; rw [kix_idx hk h, if_pos q]
theorem dget_map {n m : Nat} {k : D} {ks : List D} {f : D → D} (hk : kyd m k = true) (h : kydAll n ks = true) (q : k ∈ ks) : dget ks (ks.map f) k = some (f k) := by
  unfold dget
  rw [kix_idx hk h, if_pos q]
  show (ks.map f)[ks.idxOf k]? = _
  rw [List.getElem?_map, List.getElem?_eq_getElem (List.idxOf_lt_length_iff.mpr q), List.getElem_idxOf]; rfl

/-! ### a dict is written: all else is kept -/
def Wr (a : Addr) (H H' : Hp) : Prop := ∃ o', H' = upd H a (objO a o')
/-- a list of one's own -/
def LL (G : Gs) (H : Hp) (l : Addr) (us : List V) (ds : List D) : Prop := H l = some (.lst us) ∧ DAll G H us ds
section
variable {G : Gs} {H H' H0 : Hp} {a b l : Addr} {ks vs ds : List D} {us : List V}
theorem Wr.ne (w : Wr a H H') (n : b ≠ a) : H' b = H b := by
  obtain ⟨o', rfl⟩ := w
  exact upd_ne n
theorem Wr.same (w : Wr a H H') (n : H0 a = none) (s : Same H0 H) : Same H0 H' := by
  obtain ⟨o', rfl⟩ := w
  exact s.mut n
theorem DD.wr (d : DD G H b ks vs) (w : Wr a H H') (le : Le H H') (n : b ≠ a) (i : immAll ks = true) (j : immAll vs = true) : DD G H' b ks vs := by
  obtain ⟨o, xs, h⟩ := d
  exact ⟨o, xs, h.keep le (by rw [w.ne n]; exact h.1) i j⟩
theorem LL.wr (d : LL G H l us ds) (w : Wr a H H') (le : Le H H') (n : l ≠ a) (i : immAll ds = true) : LL G H' l us ds := ⟨by rw [w.ne n]; exact d.1, d.2.lm i le⟩
theorem LL.mn (d : LL G H l us ds) (s : Same H H') : LL G H' l us ds := ⟨s l _ d.1, d.2.mn s⟩
theorem LL.at (d : LL G H l us ds) : DAt G H (.ref l) (.lst ds) := .lst (.inl (.inl d.1)) d.2
theorem LL.ne_dd (d : LL G H l us ds) (e : DD G H a ks vs) : l ≠ a := by
  obtain ⟨o, xs, h, _⟩ := e
  exact ne_of d.1 h (by intro z; cases z)
/-- a list that is read -/
def LS (G : Gs) (H : Hp) (l : Addr) (us : List V) (ds : List D) : Prop := SqL G.K H l us ∧ DAll G H us ds
theorem LS.wr (d : LS G H l us ds) {o : Obj} (h : H a = some (objO a o)) (w : Wr a H H') (le : Le H H') (i : immAll ds = true) : LS G H' l us ds := by
  refine ⟨?_, d.2.lm i le⟩
  rcases d.1 with (q | ⟨ob, q⟩) | q
  · exact .inl (.inl (by rw [w.ne (ne_of q h (by intro z; cases z))]; exact q))
  · exact .inl (.inr ⟨ob, by rw [w.ne (ne_of q h (by intro z; cases z))]; exact q⟩)
  · exact .inr q
theorem LS.mn (d : LS G H l us ds) (s : Same H H') : LS G H' l us ds := ⟨s.ls d.1, d.2.mn s⟩
theorem LS.at (d : LS G H l us ds) : DAt G H (.ref l) (.lst ds) := .lst d.1 d.2
theorem DD.some (d : DD G H a ks vs) : ∃ o, H a = some (objO a o) := let ⟨o, _, h, _⟩ := d; ⟨o, h⟩
theorem DD.len (d : DD G H a ks vs) : ks.length = vs.length := by
  obtain ⟨o, xs, _, _, h⟩ := d
  obtain ⟨h1, h2⟩ := h.len
  rw [h1, h2]
theorem dd_put {o o' : Obj} {xs' : List (NestedKey × Addr × Value)} (h : H a = some (objO a o)) (ok : DctOk G.P G.w a o' xs') (t : DEnt G H ks vs xs') (i : immAll ks = true) (j : immAll vs = true) : Wr a H (upd H a (objO a o')) ∧ Le H (upd H a (objO a o')) ∧ DD G (upd H a (objO a o')) a ks vs :=
  ⟨⟨o', rfl⟩, Le.dct h, o', xs', upd_same, ok, t.le (Le.dct h) i j⟩
end
section
variable {X : Cx} {C : Addr} {H : Hp} {a : Addr} {ks vs : List D} {k d : D} {y z : V}
theorem rDSet_dd {Q : Hp → Prop} (h : DD (gs X C) H a ks vs) (hy : IsK (gs X C) H y k) (hz : DAt (gs X C) H z d) (hl : ks.length < 100000) (i : immAll (dput ks vs k d).1 = true) (j : immAll (dput ks vs k d).2 = true)
    (q : ∀ H', Wr a H H' → Le H H' → DD (gs X C) H' a (dput ks vs k d).1 (dput ks vs k d).2 → Q H') : rDSet X C (.ref a) y z H Q := by
  obtain ⟨o, xs, h1, h2, h3⟩ := h
  refine ⟨k, a, o, xs, ks, vs, d, rfl, hy, ⟨h1, h2, h3⟩, hz, by rw [← h3.len.1]; exact Evl.sz_lt hl, fun o' xs' ok t => ?_⟩
  obtain ⟨w, le, dd⟩ := dd_put (G := gs X C) h1 ok t i j
  exact q _ w le dd
theorem rDUpd_dd {b : Addr} {ks2 vs2 : List D} {Q : VK} (h : DD (gs X C) H a ks vs) (h2 : DD (gs X C) H b ks2 vs2) (n : a ≠ b) (ne : ks ≠ []) (hl : ks.length + ks2.length ≤ 100000) (nk : ∀ k ∈ ks2, key k ∉ ks.map key) (i : immAll (ks ++ ks2) = true) (j : immAll (vs ++ vs2) = true)
    (q : ∀ H', Wr a H H' → Le H H' → DD (gs X C) H' a (ks ++ ks2) (vs ++ vs2) → Q .non H') : rDUpd X C (.ref a) [.ref b] H Q := by
  obtain ⟨o, xs, h1, hok, h3⟩ := h
  refine ⟨a, b, o, xs, ks, vs, ks2, vs2, rfl, rfl, ⟨h1, hok, h3⟩, h2.at, n, ne, Evl.sz_of hl, nk, fun o' xs' ok t => ?_⟩
  obtain ⟨w, le, dd⟩ := dd_put (G := gs X C) h1 ok t i j
  exact q _ w le dd
theorem q_upd {σ : L2.St} {z : TS} {Dd : Ends} {i1 i2 : Nat} {b : Addr} {ks2 vs2 : List D} (e1 : σ[i1]? = some (some (.ref a))) (e2 : σ[i2]? = some (some (.ref b))) (h : DD (gs X C) H a ks vs) (h2 : DD (gs X C) H b ks2 vs2) (n : a ≠ b) (ne : ks ≠ []) (hl : ks.length + ks2.length ≤ 100000) (nk : ∀ k ∈ ks2, key k ∉ ks.map key) (i : immAll (ks ++ ks2) = true) (j : immAll (vs ++ vs2) = true)
    (q : ∀ H', Wr a H H' → Le H H' → DD (gs X C) H' a (ks ++ ks2) (vs ++ vs2) → z Dd σ H') : tSeq (tDrop (tBMD X C (rDUpd X C) (tVar i1) (tCons (tVar i2) tNil))) z Dd σ H :=
  ⟨.ref a, e1, a, rfl, ⟨ks, vs, h.at⟩, .ref b, e2, (rDUpd_dd (Q := fun _ H1 => z Dd σ H1) h h2 n ne hl nk i j q : rDUpd X C (.ref a) [.ref b] H fun _ H1 => z Dd σ H1)⟩
theorem rDSd_dd {Q : VK} (h : DD (gs X C) H a ks vs) (hy : IsK (gs X C) H y k) (hz : DAt (gs X C) H z d) (hl : ks.length < 100000) (i : immAll (ks ++ [k]) = true) (j : immAll (vs ++ [d]) = true)
    (q1 : ∀ e v, dget ks vs k = some e → DAt (gs X C) H v e → Q v H) (q2 : kix ks (key k) = none → ∀ H', Wr a H H' → Le H H' → DD (gs X C) H' a (ks ++ [k]) (vs ++ [d]) → Q z H') : rDSd X C (.ref a) [y, z] H Q := by
  obtain ⟨o, xs, h1, h2, h3⟩ := h
  refine ⟨k, a, o, xs, ks, vs, d, y, z, rfl, rfl, hy, ⟨h1, h2, h3⟩, hz, by rw [← h3.len.1]; exact Evl.sz_lt hl, q1, fun n o' xs' ok t => ?_⟩
  obtain ⟨w, le, dd⟩ := dd_put (G := gs X C) h1 ok t i j
  exact q2 n _ w le dd
theorem rDPop_dd {Q : VK} {i : Nat} (h : DD (gs X C) H a ks vs) (hy : IsK (gs X C) H y k) (hk : kix ks (key k) = some i) (im : immAll (ks.eraseIdx i) = true) (j : immAll (vs.eraseIdx i) = true)
    (q : ∀ H' v, Wr a H H' → Le H H' → DD (gs X C) H' a (ks.eraseIdx i) (vs.eraseIdx i) → Q v H') : rDPop X C (.ref a) [y] H Q := by
  obtain ⟨o, xs, h1, h2, h3⟩ := h
  refine ⟨k, a, o, xs, ks, vs, i, y, rfl, rfl, hy, ⟨h1, h2, h3⟩, hk, fun o' xs' v ok t => ?_⟩
  obtain ⟨w, le, dd⟩ := dd_put (G := gs X C) h1 ok t im j
  exact q _ v w le dd
end
/-! ### new dicts -/
def EdD (G : Gs) (te : TE) (σ : L2.St) (H : Hp) (ks vs : List D) : Prop := ∀ H1, Same H H1 → ∀ Q : VK, (∀ p H2, H1 p = none → Same H1 H2 → DD G H2 p ks vs → Q (.ref p) H2) → te σ H1 Q
section
variable {X : Cx} {C : Addr} {σ : L2.St} {H : Hp} {tk tv : TE} {d : D} {ds : List D}
theorem EdD.ed {G : Gs} {te : TE} {ks vs : List D} (h : EdD G te σ H ks vs) : Ed G te σ H (.dct ks vs) := fun H1 s Q q => h H1 s Q fun p H2 _ s2 dd => q _ H2 s2 dd.at
theorem edd_new : EdD (gs X C) (tDNew X) σ H [] [] := fun H1 s Q q p o hp ok => q p _ hp (.new hp) ⟨o, [], upd_same, ok, .nil⟩
theorem q_setD {G : Gs} {te : TE} {z : TS} {Dd : Ends} {ks vs : List D} {i : Nat} (h : EdD G te σ H ks vs) (k : ∀ p H1, H p = none → Same H H1 → DD G H1 p ks vs → z Dd (σ.set i (some (.ref p))) H1) : tSeq (tAsg te (gName i)) z Dd σ H := h H (Same.refl H) _ fun p H1 n s dd => k p H1 n s dd
theorem q_setN {G : Gs} {te : TE} {z : TS} {Dd : Ends} {ds : List D} {i : Nat} (h : EdN G te σ H ds) (k : ∀ p us H1, H p = none → Same H H1 → H1 p = some (.lst us) → DAll G H1 us ds → z Dd (σ.set i (some (.ref p))) H1) : tSeq (tAsg te (gName i)) z Dd σ H := h H (Same.refl H) _ fun p us H1 n s hp da => k p us H1 n s hp da
theorem s_setN {G : Gs} {te : TE} {Dd : Ends} {ds : List D} {i : Nat} (h : EdN G te σ H ds) (k : ∀ p us H1, H p = none → Same H H1 → H1 p = some (.lst us) → DAll G H1 us ds → Dd.nx (σ.set i (some (.ref p))) H1) : tAsg te (gName i) Dd σ H := h H (Same.refl H) _ fun p us H1 n s hp da => k p us H1 n s hp da
theorem s_set {G : Gs} {te : TE} {Dd : Ends} {d : D} {i : Nat} (h : Ed G te σ H d) (k : ∀ v H1, Same H H1 → DAt G H1 v d → Dd.nx (σ.set i (some v)) H1) : tAsg te (gName i) Dd σ H := h H (Same.refl H) _ fun v H1 s dv => k v H1 s dv
theorem q_parDN {G : Gs} {td tl : TE} {z : TS} {Dd : Ends} {ks vs : List D} {i j : Nat} (h1 : EdD G td σ H ks vs) (h2 : EdN G tl σ H ds) (k : ∀ kd ly us H1, H kd = none → Same H H1 → DD G H1 kd ks vs → H1 ly = some (.lst us) → DAll G H1 us ds → z Dd ((σ.set i (some (.ref kd))).set j (some (.ref ly))) H1) :
    tSeq (tPar i j (tCons td (tCons tl tNil))) z Dd σ H := h1 H (Same.refl H) _ fun kd H1 n1 s1 dd => h2 H1 s1 _ fun ly us H2 n2 s2 hl da => ⟨.ref kd, .ref ly, rfl, k kd ly us H2 n1 (s1.trans s2) (dd.mn s2) hl da⟩
theorem edd_one {n : Nat} (hn : n ≤ 8) (hk : kyd n (.tup ds) = true) (im : imm d = true) (h1 : Ed (gs X C) tk σ H (.tup ds)) (h2 : Ed (gs X C) tv σ H d) : EdD (gs X C) (tDOne X C tk tv) σ H [.tup ds] [d] := fun H1 s Q q p o hp ok => by
  have s1 : Same H1 (upd H1 p (objO p o)) := .new hp
  refine h1 _ (s.trans s1) _ fun y H2 s2 dy => h2 H2 (s.trans (s1.trans s2)) _ fun z H3 s3 dz => ?_
  have e3 : H3 p = some (objO p o) := s3 p _ (s2 p _ upd_same)
  refine ⟨y, z, .tup ds, d, rfl, isK_of hn hk (dy.mn s3), dz, e3, fun o' xs' ok' t => ?_⟩
  obtain ⟨w, le, dd⟩ := dd_put (G := gs X C) e3 ok' t (by rw [immAll, (kyd_facts _ n hk).1]; rfl) (by rw [immAll, im]; rfl)
  exact q p _ hp (w.same hp (s1.trans (s2.trans s3))) dd
end
end K3

set_option Elab.async false
set_option linter.all false
set_option maxRecDepth 100000
set_option maxHeartbeats 1000000
/-! The states that a chain can reach: what the program answers. -/
namespace K3
open PySem PySem.Spec PyProof.Rows L2 He KM

def Rch (c : Ch) (rows : List D) : Prop := ∃ n, Bfs (evsOf c) (step c) n [firstS c] 0 rows
def m_reached (ds : List D) (r : D) : Prop := ∃ c rows, OkC c ∧ Rch c rows ∧ rows.length ≤ 60 ∧ ds = [dCh c] ∧ r = .lst rows
theorem bfs_wf {c : Ch} (o : OkC c) : ∀ {n : Nat} {known : List D} {at_ : Nat} {rows : List D}, Bfs (evsOf c) (step c) n known at_ rows → (∀ s ∈ known, WfS c s) → ∀ s ∈ rows, WfS c s
  | _, _, _, _, .done _, h => h
  | _, known, _, _, .next (s := s) hs b, h => bfs_wf o b fun x hx => by
    rcases (foldl_add_mem _ _ _ _).mp hx with q | ⟨e, he, q⟩
    · exact h x q
    · rw [q]; exact wf_step o (h s (List.mem_of_getElem? hs)) he
theorem Rch.wf {c : Ch} {rows : List D} (o : OkC c) (h : Rch c rows) : ∀ s ∈ rows, WfS c s := by
  obtain ⟨n, b⟩ := h
  exact bfs_wf o b fun s hs => by rw [List.mem_singleton.mp hs]; exact wf_firstS o
theorem Rch.closed {c : Ch} {rows : List D} (h : Rch c rows) : ∀ s ∈ rows, ∀ e ∈ evsOf c, (step c s e).2 ∈ rows := by
  obtain ⟨n, b⟩ := h
  exact b.closed (Nat.zero_le _) fun i s hi _ => absurd hi (Nat.not_lt_zero _)
theorem Rch.nodup {c : Ch} {rows : List D} (h : Rch c rows) : rows.Nodup := by
  obtain ⟨n, b⟩ := h
  exact b.nodup (by simp)
theorem Rch.ne {c : Ch} {rows : List D} (h : Rch c rows) : rows ≠ [] := by
  obtain ⟨n, b⟩ := h
  obtain ⟨r, e⟩ := b.pre
  rw [e]; simp
theorem kyd_all {c : Ch} {l : List D} (h : ∀ s ∈ l, WfS c s) : kydAll 3 l = true := kydAll_iff.mpr fun s hs => wfS_kyd (h s hs)
theorem fold_take {c : Ch} {s : D} (es : List Ev) (k : List D) (j : Nat) : ∃ r, es.foldl (fun k e => add k (step c s e).2) k = (es.take j).foldl (fun k e => add k (step c s e).2) k ++ r := by
  obtain ⟨r, h⟩ := foldl_add_pre (step := step c) (es.drop j) s ((es.take j).foldl (fun k e => add k (step c s e).2) k)
  refine ⟨r, ?_⟩
  rw [← h, ← List.foldl_append, List.take_append_drop]
/-- the new ones of a layer, one more -/
theorem add_split {K F : List D} {x : D} : add (K ++ F) x = K ++ (if x ∈ K then F else add F x) := by
  unfold add
  by_cases h : x ∈ K
  · rw [if_pos h, if_pos (List.mem_append_left _ h)]
  · rw [if_neg h]
    by_cases q : x ∈ F
    · rw [if_pos q, if_pos (List.mem_append_right _ q)]
    · rw [if_neg q, if_neg (fun z => (List.mem_append.mp z).elim h q), List.append_assoc]
theorem edn_lstDct {G : Gs} {σ : L2.St} {H : Hp} {te : TE} {ks vs : List D} (h : Ed G te σ H (.dct ks vs)) : EdN G (tCB (rLstU G) (tCons te tNil)) σ H ks := fun H1 s Q q =>
  h H1 s _ fun v H2 s2 dv => .inr (by
    obtain ⟨a, rfl⟩ : ∃ a, v = .ref a := by cases dv; exact ⟨_, rfl⟩
    exact ⟨a, ks, vs, rfl, dv, fun p bs hp da => q p bs _ (s2.free hp) (s2.trans (.new hp)) upd_same (da.mn (.new hp))⟩)
theorem wfS_tup {c : Ch} {d : D} (h : WfS c d) : ∃ ds, d = .tup ds := let ⟨ds, e, _⟩ := h; ⟨ds, e⟩
section
variable {X : Cx} {C CC aS aT : Addr} {H : Hp} {vs : List V} {ds : List D} {r : D}
/-- x not in known: fresh[x] = True -/
theorem fresh_put {σ : L2.St} {Dd : Ends} {n : Nat} {K vK F vF : List D} {kd fd : Addr} {v : V} {ds : List D} {i2 i4 i7 : Nat} (h2 : σ[i2]? = some (some (.ref kd))) (h4 : σ[i4]? = some (some (.ref fd))) (h7 : σ[i7]? = some (some v)) (hn : n ≤ 8) (hk : kyd n (.tup ds) = true)
    (dK : DD (gs X C) H kd K vK) (dF : DD (gs X C) H fd F vF) (kK : kydAll n K = true) (kF : kydAll n F = true) (iv : immAll vF = true) (hl : F.length < 100000) (dv : DAt (gs X C) H v (.tup ds))
    (hs : ∀ H1, Same H H1 → ∀ H2, (∀ vF', (H2 = H1 ∨ Wr fd H1 H2) → Le H1 H2 → immAll vF' = true → DD (gs X C) H2 fd (if D.tup ds ∈ K then F else add F (.tup ds)) vF' → Dd.nx σ H2)) :
    tIfS (tTest (tOp (rNiU (gs X C)) (tVar i7) (tVar i2))) (tAsg (tC (.bl true)) (gSub (tVar i4) (tVar i7) (rDSet X C))) tNext Dd σ H := by
  refine Evl.s_when (b := !decide (D.tup ds ∈ K)) (Evl.et_is (et_test (ed_op (ed_var h7 dv) (ed_var h2 dK.at) (rd_niD hn hk))) (by rw [kix_mem hk kK])) (fun hb H1 s1 => ?_) (fun hb H1 s1 => ?_)
  · have hb : D.tup ds ∉ K := by simpa using hb
    rw [if_neg hb] at hs
    have iF := immAll_kyd kF
    have ik := (kyd_facts _ n hk).1
    have hF' : immAll (dput F vF (.tup ds) (.bl true)).1 = true ∧ immAll (dput F vF (.tup ds) (.bl true)).2 = true ∧ (dput F vF (.tup ds) (.bl true)).1 = add F (.tup ds) := by
      by_cases q : D.tup ds ∈ F
      · rw [dput_old hk kF q]
        refine ⟨iF, immAll_iff.mpr fun d hd => ?_, by unfold add; rw [if_pos q]⟩
        rcases List.mem_or_eq_of_mem_set hd with z | z
        · exact immAll_iff.mp iv d z
        · rw [z]; rfl
      · rw [dput_new hk kF q]
        refine ⟨by rw [immAll_append, iF]; rw [immAll, ik]; rfl, by rw [immAll_append, iv]; rfl, by unfold add; rw [if_neg q]⟩
    refine ⟨.ref fd, h4, v, h7, rDSet_dd (dF.mn s1) (isK_of hn hk (dv.mn s1)) (.bl true) hl hF'.1 hF'.2.1 fun H' w le dd => ?_⟩
    rw [hF'.2.2] at dd
    exact hs H1 s1 H' _ (.inr w) le hF'.2.1 dd
  · have hb : D.tup ds ∈ K := by simpa using hb
    rw [if_pos hb] at hs
    exact hs H1 s1 H1 vF (.inl rfl) (Le.refl H1) iv (dF.mn s1)
/-- a list's items, the list walked -/
theorem for_LS {G : Gs} {σ : L2.St} {H : Hp} {g : TG} {tb : TS} {Dd : Ends} {l : Addr} {us : List V} {ds : List D} (Pv : Nat → L2.St → Hp → Prop) (h0 : Pv 0 σ H) (hl : ∀ i σ H, Pv i σ H → LS G H l us ds)
    (hs : ∀ i x d σ H, us[i]? = some x → ds[i]? = some d → DAt G H x d → Pv i σ H → g x σ H fun σ2 H2 => tb { Dd with nx := Pv (i + 1), ct := Pv (i + 1), bk := Dd.nx } σ2 H2) (hd : ∀ σ H, Pv ds.length σ H → Dd.nx σ H) :
    ∃ W : Nat → Nat → L2.St → Hp → Prop, (∃ m, W 0 m σ H) ∧ ∀ i m σ H, W i m σ H →
      ((Itl G.K l).stop i H ∧ Dd.nx σ H) ∨ ((Itl G.K l).go i H ∧ ∃ N : L2.St → Hp → Prop, (∀ σ' H', N σ' H' → ∃ m', m' < m ∧ W (i + 1) m' σ' H') ∧ ∀ x H', (Itl G.K l).yld i H x H' → g x σ H' fun σ2 H2 => tb { Dd with nx := N, ct := N, bk := Dd.nx } σ2 H2) := by
  have e : us.length = ds.length := (hl 0 σ H h0).2.length
  refine for_list (xs := us) Pv h0 (fun i σ H _ p => (hl i σ H p).1) (fun i x σ H hx p => ?_) (fun σ H p => hd σ H (by rw [← e]; exact p))
  obtain ⟨d, h1, h2⟩ := (hl i σ H p).2.getV hx
  exact hs i x d σ H hx h1 h2 p
/-- what stands behind i turns over the layer -/
def RInv (G : Gs) (H0 : Hp) (x v1 : V) (kd ly fd : Addr) (us : List V) (c : Ch) (rows P L vK : List D) (n0 : Nat) (i : Nat) (σ' : L2.St) (H' : Hp) : Prop :=
  ∃ w5 w6 w7 F vF n, σ' = [some x, some v1, some (.ref kd), some (.ref ly), some (.ref fd), w5, w6, w7] ∧ Same H0 H' ∧ LS G H' ly us L ∧ DD G H' kd (P ++ L) vK ∧ DD G H' fd F vF ∧ immAll vF = true ∧
    n + i = n0 ∧ Bfs (evsOf c) (step c) n ((P ++ L) ++ F) (P.length + i) rows
/-- .. and over the events of one state -/
def RInv2 (G : Gs) (H0 : Hp) (x v1 : V) (kd ly fd ev : Addr) (us es : List V) (w5 : V) (c : Ch) (P L F vK : List D) (s : D) (j : Nat) (σ' : L2.St) (H' : Hp) : Prop :=
  ∃ w6 w7 F' vF, σ' = [some x, some v1, some (.ref kd), some (.ref ly), some (.ref fd), some w5, w6, w7] ∧ Same H0 H' ∧ LS G H' ly us L ∧ LS G H' ev es ((evsOf c).map dEv) ∧ DAt G H' w5 s ∧ DD G H' kd (P ++ L) vK ∧ DD G H' fd F' vF ∧ immAll vF = true ∧
    (P ++ L) ++ F' = ((evsOf c).take j).foldl (fun k e => add k (step c s e).2) ((P ++ L) ++ F)
theorem immAll_evs (c : Ch) : immAll ((evsOf c).map dEv) = true := immAll_iff.mpr fun d hd => by obtain ⟨e, _, rfl⟩ := List.mem_map.mp hd; exact (kyd_facts _ 1 (kyd_ev e)).1
theorem reached_layer {c : Ch} {rows P L vK : List D} {n0 : Nat} {H0 H' : Hp} {x v1 : V} {kd ly fd : Addr} {us : List V} {w5 w6 w7 : Option V} {Dd : Ends} (ok : OkC c) (hr : rows.length ≤ 60) (wfr : ∀ s ∈ rows, WfS c s) (iK : immAll vK = true)
    (hx : DAt (gs X C) H0 x (dCh c)) (nf : H0 fd = none) (nkf : kd ≠ fd) (h0 : RInv (gs X C) H0 x v1 kd ly fd us c rows P L vK n0 0 [some x, some v1, some (.ref kd), some (.ref ly), some (.ref fd), w5, w6, w7] H')
    (hd : ∀ σ2 H2, RInv (gs X C) H0 x v1 kd ly fd us c rows P L vK n0 L.length σ2 H2 → Dd.nx σ2 H2) :
    tFor (iList X.K (tVar 3)) (gName 5)
      (tFor (iList X.K (tCall (spD (gs X C) m_events) [] C8.E0 (tCons (tVar 0) tNil))) (gName 6)
        (tSeq (tAsg (tOp (rIxU (gs X C)) (tCall (spD (gs X C) m_after_event) [] C8.E0 (tCons (tVar 0) (tCons (tVar 5) (tCons (tVar 6) tNil)))) (tC (.int 1))) (gName 7))
          (tIfS (tTest (tOp (rNiU (gs X C)) (tVar 7) (tVar 2))) (tAsg (tC (.bl true)) (gSub (tVar 4) (tVar 7) (rDSet X C))) tNext))) Dd [some x, some v1, some (.ref kd), some (.ref ly), some (.ref fd), w5, w6, w7] H' := by
  have hL0 : LS (gs X C) H' ly us L := by obtain ⟨_, _, _, _, _, _, _, _, h, _⟩ := h0; exact h
  refine ⟨.ref ly, rfl, ly, rfl, ⟨us, hL0.1⟩, for_LS (G := gs X C) (RInv (gs X C) H0 x v1 kd ly fd us c rows P L vK n0) h0 (fun i σ H p => by obtain ⟨_, _, _, _, _, _, _, _, h, _⟩ := p; exact h) (fun i w s σ' H1 hw hsi dw p => ?_) hd⟩
  obtain ⟨w5, w6, w7, F, vF, n, rfl, s1, hLL, dK, dF, iF, hn, hB⟩ := p
  have hat : ((P ++ L) ++ F)[P.length + i]? = some s := by
    rw [List.append_assoc, List.getElem?_append_right (by omega), Nat.add_sub_cancel_left, List.getElem?_append_left (List.getElem?_eq_some_iff.mp hsi).1]; exact hsi
  obtain ⟨m, hm, hB2⟩ := hB.next_inv hat
  obtain ⟨rest, hrest⟩ := hB2.pre
  have hmem : ∀ y ∈ expand (evsOf c) (step c) ((P ++ L) ++ F) s, y ∈ rows := fun y hy => by rw [hrest]; exact List.mem_append_left _ hy
  have hmem0 : ∀ y ∈ (P ++ L) ++ F, y ∈ rows := fun y hy => hmem y ((foldl_add_mem _ _ _ _).mpr (.inl hy))
  have wfs : WfS c s := wfr s (hmem0 s (List.mem_of_getElem? hat))
  have wfL : ∀ y ∈ L, WfS c y := fun y hy => wfr y (hmem0 y (List.mem_append_left _ (List.mem_append_right _ hy)))
  have wfK : ∀ y ∈ P ++ L, WfS c y := fun y hy => wfr y (hmem0 y (List.mem_append_left _ hy))
  have iLL := immAll_kyd (kyd_all wfL)
  have iKK := immAll_kyd (kyd_all wfK)
  show tFor (iList X.K _) (gName 6) _ _ [some x, some v1, some (.ref kd), some (.ref ly), some (.ref fd), some w, w6, w7] H1
  refine (ed_call (G := gs X C) (dom := m_events) (eda_cons (ed_var (σ := [some x, some v1, some (.ref kd), some (.ref ly), some (.ref fd), some w, w6, w7]) rfl (hx.mn s1)) eda_nil) ⟨c, ok, rfl, rfl⟩) H1 (Same.refl H1) _ fun ve H2 s2 dve => ?_
  cases dve with
  | @lst ev es _ q1 q2 =>
    refine ⟨ev, rfl, ⟨es, q1⟩, for_LS (G := gs X C) (ds := (evsOf c).map dEv) (RInv2 (gs X C) H0 x v1 kd ly fd ev us es w c P L F vK s) ?_ (fun j σ H p => by obtain ⟨_, _, _, _, _, _, _, h, _⟩ := p; exact h) (fun j we de σ' H3 hwe hde dwe p => ?_) (fun σ' H3 p => ?_)⟩
    · exact ⟨w6, w7, F, vF, rfl, s1.trans s2, hLL.mn s2, ⟨q1, q2⟩, dw.mn s2, dK.mn s2, dF.mn s2, iF, rfl⟩
    · obtain ⟨w6, w7, F', vF', rfl, s3, hLL3, hEv, dw3, dK3, dF3, iF3, eF⟩ := p
      rw [List.getElem?_map] at hde
      obtain ⟨e, he, rfl⟩ := Option.map_eq_some_iff.mp hde
      have hee := List.mem_of_getElem? he
      obtain ⟨r1, hr1⟩ := fold_take (c := c) (s := s) (evsOf c) ((P ++ L) ++ F) j
      have hsub : ∀ y ∈ (P ++ L) ++ F', y ∈ rows := fun y hy => hmem y (by unfold expand; rw [hr1, ← eF]; exact List.mem_append_left _ hy)
      have wfF : ∀ y ∈ F', WfS c y := fun y hy => wfr y (hsub y (List.mem_append_right _ hy))
      have hlen : F'.length ≤ 60 := by
        have : ((P ++ L) ++ F').length ≤ rows.length := by
          have := congrArg List.length hrest
          unfold expand at this
          rw [hr1, ← eF] at this
          simp only [List.length_append] at this ⊢
          omega
        simp only [List.length_append] at this
        omega
      have wfn := wf_step ok wfs hee
      obtain ⟨dn, hdn⟩ := wfS_tup wfn
      refine q_set (G := gs X C) (d := (step c s e).2) (ed_op (ed_call (dom := m_after_event) (eda_cons (ed_var rfl (hx.mn s3)) (eda_cons (ed_var rfl dw3) (eda_cons (ed_var rfl dwe) eda_nil))) ⟨c, s, e, ok, wfs, hee, rfl, rfl⟩) ed_int (rd_ixT rfl)) fun v7 H4 s4 d7 => ?_
      rw [hdn] at d7
      have kn : kyd 3 (.tup dn) = true := by rw [← hdn]; exact wfS_kyd wfn
      refine fresh_put (X := X) (C := C) (σ := [some x, some v1, some (.ref kd), some (.ref ly), some (.ref fd), some w, some we, some v7]) rfl rfl rfl (by decide) kn (dK3.mn s4) (dF3.mn s4) (kyd_all wfK) (kyd_all wfF) iF3 (by omega) d7 fun H5 s5 H6 vF6 hw6 le6 iF6 dF6 => ?_
      have eN : (P ++ L) ++ (if D.tup dn ∈ P ++ L then F' else add F' (.tup dn)) = ((evsOf c).take (j + 1)).foldl (fun k e => add k (step c s e).2) ((P ++ L) ++ F) := by
        rw [← add_split, eF, List.take_add_one, he, List.foldl_append, ← hdn]; rfl
      have s45 : Same H3 H5 := Same.trans s4 s5
      rcases hw6 with rfl | hw6
      · exact ⟨_, _, _, vF6, rfl, s3.trans s45, hLL3.mn s45, hEv.mn s45, dw3.mn s45, dK3.mn s45, dF6, iF6, eN⟩
      · obtain ⟨of, hof⟩ := (dF3.mn s45).some
        exact ⟨_, _, _, vF6, rfl, hw6.same nf (s3.trans s45), (hLL3.mn s45).wr hof hw6 le6 iLL, (hEv.mn s45).wr hof hw6 le6 (immAll_evs c), (dw3.mn s45).lm (imm_kyd (wfS_kyd wfs)) le6, (dK3.mn s45).wr hw6 le6 nkf iKK iK, dF6, iF6, eN⟩
    · obtain ⟨w6, w7, F', vF', rfl, s3, hLL3, hEv, dw3, dK3, dF3, iF3, eF⟩ := p
      rw [List.length_map, List.take_length] at eF
      refine ⟨_, _, _, F', vF', m, rfl, s3, hLL3, dK3, dF3, iF3, by omega, ?_⟩
      rw [eF]; exact hB2
end
end K3

set_option Elab.async false
set_option linter.all false
set_option maxRecDepth 100000
set_option maxHeartbeats 1000000
/-! The states that a chain can reach: what the program answers. -/
namespace K3
open PySem PySem.Spec PyProof.Rows L2 He KM
theorem cmp_lst {c : Ch} {l m : List D} (h : ∀ s ∈ l, WfS c s) (k : ∀ s ∈ m, WfS c s) : CmpOk (.lst l) (.lst m) :=
  .inl ⟨⟨4, by decide, by rw [eqd]; exact eqdAll_iff.mpr fun s hs => kyd_eqd _ _ (wfS_kyd (h s hs))⟩, ⟨4, by decide, by rw [eqd]; exact eqdAll_iff.mpr fun s hs => kyd_eqd _ _ (wfS_kyd (k s hs))⟩⟩
theorem lst_nil {l : List D} : decide (D.lst l = D.lst []) = decide (l = []) := decB ⟨fun h => by cases h; rfl, fun h => by rw [h]⟩
section
variable {X : Cx} {C CC aS aT : Addr} {H : Hp} {vs : List V} {ds : List D} {r : D}
theorem nil_list {G : Gs} {σ : L2.St} {H : Hp} : Ed G (tLst tNil) σ H (.lst []) := EdN.ed (edn_lst eda_nil (by show 0 ≤ 100000; decide))
/-- what stands ahead of each turn of the while -/
def RW0 (G : Gs) (H0 : Hp) (x v1 : V) (kd : Addr) (c : Ch) (rows : List D) (m : Nat) (σ' : L2.St) (H' : Hp) : Prop :=
  ∃ ly us w4 w5 w6 w7 P L vK, σ' = [some x, some v1, some (.ref kd), some (.ref ly), w4, w5, w6, w7] ∧ Same H0 H' ∧ LS G H' ly us L ∧ DD G H' kd (P ++ L) vK ∧ immAll vK = true ∧ Bfs (evsOf c) (step c) m (P ++ L) P.length rows
theorem p_reached (hm : m_reached ds r) (h : DAll (gs X C) H vs ds) : SRet (gs X C) (t_reached X C CC aS aT (spD (gs X C) m_first_state) (spD (gs X C) m_events) (spD (gs X C) m_after_event)) (start N_reached vs) H r := by
  obtain ⟨c, rows, ok, hr, hle, rfl, rfl⟩ := hm
  obtain ⟨x, rfl, h_chain⟩ := one_of h
  have wfr := hr.wf ok
  have ndr := hr.nodup
  obtain ⟨n0, hB0⟩ := hr
  obtain ⟨d0, hd0⟩ := wfS_tup (wf_firstS ok)
  have k0 : kyd 3 (.tup d0) = true := by rw [← hd0]; exact wfS_kyd (wf_firstS ok)
  refine sr_asg (ed_call (eda_cons (ed_var rfl h_chain) eda_nil) ⟨c, ok, rfl, rfl⟩) fun v1 H1 s1 h1 => ?_
  intro Dd H0 s0 q
  have hx := (h_chain.mn s1).mn s0
  have h1 := h1.mn s0
  rw [hd0] at h1
  refine q_parDN (G := gs X C) (edd_one (X := X) (C := C) (σ := [some x, some v1, none, none, none, none, none, none]) (by decide) k0 rfl (ed_var rfl h1) ed_bl) (edn_lst (eda_cons (ed_var rfl h1) eda_nil) (by show 1 ≤ 100000; decide)) fun kd ly us H3 nk s3 dK hl da => ?_
  show tSeq (tWhile _ _) _ _ [some x, some v1, some (.ref kd), some (.ref ly), none, none, none, none] H3
  refine ⟨RW0 (gs X C) H0 x v1 kd c rows, ⟨n0, ly, us, none, none, none, none, [], [.tup d0], [.bl true], rfl, s3, ⟨.inl (.inl hl), da⟩, dK, rfl, by rw [← hd0]; exact hB0⟩, fun m σ' H4 p => ?_⟩
  obtain ⟨ly, us, w4, w5, w6, w7, P, L, vK, rfl, s4, hL, dK, iK, hB⟩ := p
  obtain ⟨rest, hrest⟩ := hB.pre
  have wfK : ∀ y ∈ P ++ L, WfS c y := fun y hy => wfr y (by rw [hrest]; exact List.mem_append_left _ hy)
  have wfL : ∀ y ∈ L, WfS c y := fun y hy => wfK y (List.mem_append_right _ hy)
  refine (Evl.et_is (et_test (ed_op (G := gs X C) (ed_var (σ := [some x, some v1, some (.ref kd), some (.ref ly), w4, w5, w6, w7]) rfl hL.at) nil_list (rd_ne (cmp_lst (c := c) wfL (fun s hs => by cases hs))))) (by rw [lst_nil])) H4 (Same.refl H4) _ fun H5 s5 => ?_
  by_cases hnil : L = []
  · -- the end
    rw [decide_eq_true hnil]
    refine iteF ?_
    subst hnil
    rw [List.append_nil] at hB dK
    obtain ⟨_, e⟩ := hB.done_inv (Nat.le_refl _)
    subst e
    exact (sr_ret (G := gs X C) (edn_lstDct (ed_var (σ := [some x, some v1, some (.ref kd), some (.ref ly), w4, w5, w6, w7]) rfl (dK.mn s5).at)).ed) Dd H5 (Same.refl H5) fun v H6 s6 dv => q v H6 (s4.trans (Same.trans s5 s6)) dv
  · rw [decide_eq_false hnil]
    refine iteT ⟨fun σ'' H'' => ∃ m', m' < m ∧ RW0 (gs X C) H0 x v1 kd c rows m' σ'' H'', fun _ _ z => z, ?_⟩
    have s45 : Same H0 H5 := Same.trans s4 s5
    refine q_setD (G := gs X C) (edd_new (X := X) (C := C)) fun fd H6 nf s6 dF => ?_
    have s06 : Same H0 H6 := s45.trans s6
    have dK6 := dK.mn (Same.trans s5 s6)
    have nkf : kd ≠ fd := by
      obtain ⟨ok, hok⟩ := (dK.mn s5).some
      exact ne_of_none hok nf
    show tSeq (tFor _ _ _) _ _ [some x, some v1, some (.ref kd), some (.ref ly), some (.ref fd), w5, w6, w7] H6
    refine reached_layer (X := X) (C := C) (c := c) (rows := rows) (P := P) (L := L) (vK := vK) (n0 := m) (us := us) ok hle wfr iK hx (s45.free nf) nkf ⟨w5, w6, w7, [], [], m, rfl, s06, hL.mn (Same.trans s5 s6), dK6, dF, rfl, rfl, by rw [List.append_nil]; exact hB⟩ fun σ2 H7 p => ?_
    obtain ⟨w5, w6, w7, F, vF, n, rfl, s7, hL7, dK7, dF7, iF7, hn, hB7⟩ := p
    obtain ⟨rest7, hrest7⟩ := hB7.pre
    have hlen7 : ((P ++ L) ++ F).length ≤ 60 := by
      have := congrArg List.length hrest7
      rw [List.length_append] at this
      omega
    have wfF : ∀ y ∈ F, WfS c y := fun y hy => wfr y (by rw [hrest7]; exact List.mem_append_left _ (List.mem_append_right _ hy))
    have hne : P ++ L ≠ [] := fun e => hnil (List.append_eq_nil_iff.mp e).2
    have hdis : ∀ k ∈ F, key k ∉ (P ++ L).map key := fun k hk hin => by
      obtain ⟨y, hy, e⟩ := List.mem_map.mp hin
      have e2 := key_inj y k 3 3 (wfS_kyd (wfK y hy)) (wfS_kyd (wfF k hk)) e
      subst e2
      rw [hrest7] at ndr
      have := (List.nodup_append.mp ndr).1
      exact (List.nodup_append.mp this).2.2 y hy y hk rfl
    refine q_upd (X := X) (C := C) rfl rfl dK7 dF7 nkf hne (by rw [← List.length_append]; omega) hdis (by rw [immAll_append, immAll_kyd (kyd_all wfK), immAll_kyd (kyd_all wfF)]; rfl) (by rw [immAll_append, iK, iF7]; rfl) fun H8 w8 le8 dK8 => ?_
    have s8 : Same H0 H8 := w8.same nk s7
    have dF8 := dF7.wr w8 le8 (fun e => nkf e.symm) (immAll_kyd (kyd_all wfF)) iF7
    show tSeq (tIfS _ tNever tNext) _ _ [some x, some v1, some (.ref kd), some (.ref ly), some (.ref fd), w5, w6, w7] H8
    refine Evl.q_when (b := false) (Evl.et_is (et_test (ed_op (G := gs X C) (ed_cb (eda_cons (ed_var (σ := [some x, some v1, some (.ref kd), some (.ref ly), some (.ref fd), w5, w6, w7]) rfl dK8.at) eda_nil) rc_lenD) ed_int rd_B0)) (decide_eq_false (by omega))) (fun e => by cases e) fun _ H9 s9 => ?_
    refine s_setN (G := gs X C) (edn_lstDct (G := gs X C) (ed_var rfl (dF8.mn s9).at)) fun ly2 us2 H10 nl2 s10 hl2 da2 => ?_
    refine ⟨n, ?_, ly2, us2, some (.ref fd), w5, w6, w7, P ++ L, F, vK ++ vF, rfl, s8.trans (Same.trans s9 s10), ⟨.inl (.inl hl2), da2⟩, dK8.mn (Same.trans s9 s10), by rw [immAll_append, iK, iF7]; rfl, ?_⟩
    · have : 0 < L.length := List.length_pos_iff.mpr hnil
      omega
    · rw [List.length_append]; exact hB7
end
end K3

set_option Elab.async false
set_option linter.all false
set_option maxRecDepth 100000
set_option maxHeartbeats 1000000
/-! Dict comprehensions, told by data. -/
namespace K3
open PySem PySem.Spec PyProof.Rows L2 He KM

theorem take_snoc {α : Type} {l : List α} {i : Nat} {a : α} (h : l[i]? = some a) : l.take (i + 1) = l.take i ++ [a] := by rw [List.take_add_one, h]; rfl
theorem not_mem_take {α : Type} {l : List α} {i : Nat} {a : α} (n : l.Nodup) (h : l[i]? = some a) : a ∉ l.take i := fun hm => by
  obtain ⟨j, hj, e⟩ := List.mem_iff_getElem.mp hm
  rw [List.getElem_take] at e
  obtain ⟨hi, e2⟩ := List.getElem?_eq_some_iff.mp h
  rw [List.length_take] at hj
  have := (List.getElem_inj n).mp (e.trans e2.symm)
  omega
theorem kyd_take {n : Nat} {ds : List D} (h : kydAll n ds = true) (i : Nat) : kydAll n (ds.take i) = true := kydAll_iff.mpr fun d hd => kydAll_iff.mp h d (List.mem_of_mem_take hd)
theorem kyd_mem {n : Nat} {ds : List D} {d : D} (h : kydAll n ds = true) (hd : d ∈ ds) : kyd n d = true := kydAll_iff.mp h d hd
theorem isK_tup {G : Gs} {H : Hp} {v : V} {n : Nat} {d : D} (hn : n ≤ 8) (ht : ∃ es, d = .tup es) (hk : kyd n d = true) (h : DAt G H v d) : IsK G H v d := by
  obtain ⟨es, rfl⟩ := ht
  exact isK_of hn hk h
/-- a new dict that grows -/
def CD (G : Gs) (H2 : Hp) (p : Addr) (ks vs : List D) (H' : Hp) : Prop := Same H2 H' ∧ DD G H' p ks vs
theorem cd_start {G : Gs} {H2 : Hp} {p : Addr} (n : H2 p = none) (low : (p == sysModules) = false) : CD G H2 p [] [] (upd H2 p (objO p dct0)) := ⟨.new n, dct0, [], upd_same, dct0_T low, .nil⟩
theorem cd_put {G : Gs} {H2 H5 : Hp} {p : Addr} {ks vs : List D} {k d : D} {y z : V} {Nx : Hp → Prop} {n : Nat} (nn : H2 p = none) (c : CD G H2 p ks vs H5) (hk : IsK G H5 y k) (hz : DAt G H5 z d) (kk : kydAll n ks = true) (kd : kyd n k = true) (nm : k ∉ ks) (iv : immAll vs = true) (id : imm d = true) (hl : ks.length < 100000)
    (q : ∀ H', CD G H2 p (ks ++ [k]) (vs ++ [d]) H' → Wr p H5 H' → Le H5 H' → Nx H') : DcPut G p y z H5 Nx := by
  obtain ⟨s, o, xs, h1, h2, h3⟩ := c
  refine .inl ⟨k, o, xs, ks, vs, d, hk, ⟨h1, h2, h3⟩, hz, by rw [← h3.len.1]; exact Evl.sz_lt hl, fun o' xs' ok t => ?_⟩
  rw [dput_new kd kk nm] at t
  obtain ⟨w, le, dd⟩ := dd_put (G := G) h1 ok t (by rw [immAll_append, immAll_kyd kk]; rw [immAll, imm_kyd kd]; rfl) (by rw [immAll_append, iv]; rw [immAll, id]; rfl)
  exact q _ ⟨w.same nn s, dd⟩ w le
section
variable {G : Gs} {σ : L2.St} {H : Hp} {tl tv : TE} {ds : List D}
/-- {x: v for x in list} -/
theorem edd_list {n j : Nat} (F : D → D) (hn : n ≤ 8) (ht : ∀ d ∈ ds, ∃ es, d = .tup es) (kk : kydAll n ds = true) (nd : ds.Nodup) (hl : ds.length ≤ 40000) (im : ∀ d ∈ ds, imm (F d) = true) (h : Ed G tl σ H (.lst ds)) (hj : j < σ.length)
    (hv : ∀ d ∈ ds, ∀ x H1, Same H H1 → DAt G H1 x d → Ed G tv ((wipe σ [j]).set j (some x)) H1 (F d)) : EdD G (tDcX G (iList G.K tl) (gName j) tYes (tVar j) tv [j]) σ H ds (ds.map F) := fun H0 s0 Q q =>
  h H0 s0 _ fun v H1 s1 dv => by
    cases dv with
    | @lst a xs _ h1 h2 =>
      refine ⟨a, rfl, ⟨xs, h1⟩, fun p hp low => ?_⟩
      have exs : xs.length = ds.length := h2.length
      refine ⟨fun i m H' => m = ds.length - i ∧ i ≤ ds.length ∧ CD G H1 p (ds.take i) ((ds.take i).map F) H', ⟨ds.length, by simp, Nat.zero_le _, by rw [List.take_zero]; exact cd_start hp low⟩, ?_⟩
      rintro i m H' ⟨rfl, hi, c⟩
      have hq : SqL G.K H' a xs := c.1.ls h1
      by_cases hlt : i < ds.length
      · have hx : xs[i]? = some xs[i] := List.getElem?_eq_getElem (by omega)
        obtain ⟨d, hd, dx⟩ := h2.getV hx
        have hm := List.mem_of_getElem? hd
        refine .inr ⟨⟨xs, _, hq, hx⟩, fun H'' => CD G H1 p (ds.take (i + 1)) ((ds.take (i + 1)).map F) H'', fun H'' z => ⟨_, by omega, rfl, hlt, z⟩, fun x H'' y => ?_⟩
        obtain ⟨e, y⟩ := y
        subst e
        have ex := y xs hq
        rw [hx] at ex; cases ex
        have e0 : ((wipe σ [j]).set j (some xs[i]))[j]? = some (some xs[i]) := by
          have : j < (wipe σ [j]).length := by rw [wipe_length]; exact hj
          rw [List.getElem?_set_self this]
        refine ⟨by unfold wipe; simp [wipe, List.set_set], ?_⟩
        unfold tYes
        refine iteT ⟨_, e0, (hv d hm _ H1 (s0.trans s1) dx) H'' c.1 _ fun z H5 s5 dz => ?_⟩
        rw [take_snoc hd, List.map_append]
        exact cd_put hp ⟨c.1.trans s5, c.2.mn s5⟩ (isK_tup hn (ht d hm) (kyd_mem kk hm) ((dx.mn c.1).mn s5)) dz (kyd_take kk i) (kyd_mem kk hm) (not_mem_take nd hd) (immAll_iff.mpr fun r hr => by obtain ⟨e, he, rfl⟩ := List.mem_map.mp hr; exact im e (List.mem_of_mem_take he)) (im d hm) (by rw [List.length_take]; omega) fun H6 c6 _ _ => c6
      · have e : i = ds.length := by omega
        subst e
        rw [List.take_length] at c
        exact .inl ⟨⟨xs, hq, by omega⟩, q p H' (s1.free hp) (s1.trans c.1) c.2⟩
/-- a dict as a source of a walk -/
theorem DD.src {G : Gs} {H : Hp} {a : Addr} {ks vs : List D} (h : DD G H a ks vs) : ∃ o es xs, DSrc o a es H ∧ es.toList = xs.map (entryOfKey (nestedKind G.P G.w)) ∧ DEnt G H ks vs xs := by
  obtain ⟨o, xs, h1, h2, h3⟩ := h
  obtain ⟨es, ep, e1, e2⟩ := h2.ent
  refine ⟨o, es, xs, ⟨h1, h2.low, h2.ex, ⟨ep, e1⟩, fun i e he => ?_, fun i e he => ?_⟩, e2, h3⟩
  · have hi : es.toList[i]? = Option.some e := by rw [Array.getElem?_toList]; exact he
    rw [e2, List.getElem?_map] at hi
    obtain ⟨x, hx, rfl⟩ := Option.map_eq_some_iff.mp hi
    obtain ⟨b, k, d, v, u, q1, q2, q3, q4, q5, q6⟩ := h3.get (i := i) (List.getElem?_eq_some_iff.mp hx).1
    rw [hx] at q1; cases q1
    exact ⟨v, q6⟩
  · have hi : es.toList[i]? = Option.some e := by rw [Array.getElem?_toList]; exact he
    rw [e2, List.getElem?_map] at hi
    obtain ⟨x, hx, rfl⟩ := Option.map_eq_some_iff.mp hi
    exact ⟨.ref x.2.1, rfl⟩
theorem src_at {G : Gs} {H : Hp} {ks vs : List D} {xs : List (NestedKey × Addr × Value)} {es : Array DictEntry} (e2 : es.toList = xs.map (entryOfKey (nestedKind G.P G.w))) (h3 : DEnt G H ks vs xs) {i : Nat} {e : DictEntry} (he : es[i]? = Option.some e) :
    ∃ b k d v u, e.key = .ref b ∧ e.val = u ∧ ks[i]? = some k ∧ vs[i]? = some d ∧ DAt G H (.ref b) k ∧ DAt G H v d ∧ RelV v u := by
  have hi : es.toList[i]? = Option.some e := by rw [Array.getElem?_toList]; exact he
  rw [e2, List.getElem?_map] at hi
  obtain ⟨x, hx, rfl⟩ := Option.map_eq_some_iff.mp hi
  obtain ⟨b, k, d, v, u, q1, q2, q3, q4, q5, q6⟩ := h3.get (i := i) (List.getElem?_eq_some_iff.mp hx).1
  rw [hx] at q1; cases q1
  exact ⟨b, k, d, v, u, rfl, rfl, q2, q3, q4, q5, q6⟩
theorem src_size {G : Gs} {H : Hp} {ks vs : List D} {xs : List (NestedKey × Addr × Value)} {es : Array DictEntry} (e2 : es.toList = xs.map (entryOfKey (nestedKind G.P G.w))) (h3 : DEnt G H ks vs xs) : es.size = ks.length := by
  rw [← Array.length_toList, e2, List.length_map, h3.len.1]
/-- the different numbers among a dict's values, as a new dict -/
def EdI (G : Gs) (te : TE) (σ : L2.St) (H : Hp) (ns : List Int) : Prop := ∀ H1, Same H H1 → ∀ Q : VK, (∀ p o kvs H2, H1 p = none → Same H1 H2 → H2 p = some (objO p o) → IDc G.P G.w p o kvs → kvs.map (·.1) = ns → (∀ kv ∈ kvs, kv.2 = .bool true) → Q (.ref p) H2) → te σ H1 Q
theorem stored_keys {kvs : List (Int × Value)} {i : Int} {u : Value} : (stored kvs i u).map (·.1) = add (kvs.map (·.1)) i := by
  unfold stored add
  by_cases h : i ∈ kvs.map (·.1)
  · obtain ⟨kv, h1, h2⟩ := List.mem_map.mp h
    rw [if_pos h, if_pos (List.any_eq_true.mpr ⟨kv, h1, by simpa using h2⟩), List.map_map]
    apply List.map_congr_left
    intro x _
    show (if x.1 = i then (x.1, u) else x).1 = x.1
    split <;> rfl
  · rw [if_neg h, if_neg, List.map_append]; rfl
    intro q
    obtain ⟨kv, h1, h2⟩ := List.any_eq_true.mp q
    exact h (List.mem_map.mpr ⟨kv, h1, by simpa using h2⟩)
theorem stored_vals {kvs : List (Int × Value)} {i : Int} (h : ∀ kv ∈ kvs, kv.2 = .bool true) : ∀ kv ∈ stored kvs i (.bool true), kv.2 = .bool true := by
  unfold stored
  split
  · intro kv hkv
    obtain ⟨x, hx, rfl⟩ := List.mem_map.mp hkv
    split
    · rfl
    · exact h x hx
  · intro kv hkv
    rcases List.mem_append.mp hkv with q | q
    · exact h kv q
    · rw [List.mem_singleton.mp q]
theorem edi_vals {td : TE} {j : Nat} {ks : List D} {ns : List Int} (hl : ns.length ≤ 40000) (h : Ed G td σ H (.dct ks (ns.map .int))) (hj : j < σ.length) : EdI G (tDcX G (iDV td) (gName j) tYes (tVar j) (tC (.bl true)) [j]) σ H (uniq ns) := fun H0 s0 Q q =>
  h H0 s0 _ fun v H1 s1 dv => by
    obtain ⟨a, rfl⟩ : ∃ a, v = .ref a := by cases dv; exact ⟨_, rfl⟩
    have dd := dv.dd
    obtain ⟨o, es, xs, src, e2, h3⟩ := dd.src
    have lk : ks.length = ns.length := by rw [dd.len, List.length_map]
    have sz : es.size = ns.length := by rw [src_size e2 h3, lk]
    refine ⟨a, o, es, rfl, src, fun p hp low => ?_⟩
    refine ⟨fun i m H' => m = ns.length - i ∧ i ≤ ns.length ∧ Same H1 H' ∧ ∃ o' kvs, H' p = some (objO p o') ∧ IDc G.P G.w p o' kvs ∧ kvs.map (·.1) = uniq (ns.take i) ∧ ∀ kv ∈ kvs, kv.2 = .bool true, ⟨ns.length, by simp, Nat.zero_le _, .new hp, dct0, [], upd_same, dct0_I low, by rw [List.take_zero]; rfl, fun kv hkv => by cases hkv⟩, ?_⟩
    rintro i m H' ⟨rfl, hi, s', o', kvs, c1, c2, c3, c4⟩
    have hat : H' a = some (objO a o) := s' a _ src.at_
    by_cases hlt : i < ns.length
    · refine .inr ⟨⟨hat, by omega⟩, fun H'' => Same H1 H'' ∧ ∃ o' kvs, H'' p = some (objO p o') ∧ IDc G.P G.w p o' kvs ∧ kvs.map (·.1) = uniq (ns.take (i + 1)) ∧ ∀ kv ∈ kvs, kv.2 = .bool true, fun H'' z => ⟨_, by omega, rfl, hlt, z⟩, fun x H'' y => ?_⟩
      obtain ⟨e, en, he, rx⟩ := y
      subst e
      obtain ⟨b, k, d, v, u, q1, q2, q3, q4, q5, q6, q7⟩ := src_at e2 h3 he
      have hn : ns[i]? = some ns[i] := List.getElem?_eq_getElem hlt
      rw [List.getElem?_map, hn] at q4
      cases q4
      cases q6
      obtain ⟨t, ht⟩ := q7
      rw [q2, ht] at rx
      have ex : x = .int ns[i] := by
        cases x with
        | int k => obtain ⟨t', e⟩ := rx; cases e; rfl
        | str k => obtain ⟨t', e⟩ := rx; cases e
        | byt k => obtain ⟨t', e⟩ := rx; cases e
        | flt k => obtain ⟨t', e⟩ := rx; cases e
        | _ => cases rx
      subst ex
      have e0 : ((wipe σ [j]).set j (some (.int ns[i])))[j]? = some (some (.int ns[i])) := by
        have : j < (wipe σ [j]).length := by rw [wipe_length]; exact hj
        rw [List.getElem?_set_self this]
      refine ⟨by unfold wipe; simp [wipe, List.set_set], ?_⟩
      unfold tYes
      refine iteT ⟨_, e0, .inr ⟨ns[i], o', kvs, rfl, c1, c2, ?_, fun o2 u2 ru id => ?_⟩⟩
      · have := congrArg List.length c3
        rw [List.length_map] at this
        have h2 := uniq_len (ns.take i)
        rw [List.length_take] at h2
        exact Evl.sz_lt (by omega)
      · cases ru
        refine ⟨s'.mut hp, o2, _, upd_same, id, ?_, stored_vals c4⟩
        rw [stored_keys, c3, take_snoc hn, uniq_snoc]
    · have e : i = ns.length := by omega
      subst e
      rw [List.take_length] at c3
      exact .inl ⟨⟨hat, by omega⟩, q p o' kvs H' (s1.free hp) (s1.trans s') c1 c2 c3 c4⟩
theorem ed_lenI {te : TE} {ns : List Int} (h : EdI G te σ H ns) : Ed G (tCB (rLenU G) (tCons te tNil)) σ H (.int ns.length) := fun H1 s Q q =>
  h H1 s _ fun p o kvs H2 n s2 h1 h2 h3 _ => .inr (.inr ⟨p, o, kvs, rfl, h1, h2, q _ H2 s2 (by
    have e := congrArg List.length h3
    rw [List.length_map] at e
    rw [e]; exact .int _)⟩)
end
end K3

set_option Elab.async false
set_option linter.all false
set_option maxRecDepth 100000
set_option maxHeartbeats 1000000
/-! The numbers of the states: what the program answers. -/
namespace K3
open PySem PySem.Spec PyProof.Rows L2 He KM

-- keys with bools within
mutual
def kyz : Nat → D → Bool
  | _, .non => true
  | _, .bl _ => true
  | _, .int _ => true
  | _, .str _ => true
  | 0, .tup _ => false
  | n + 1, .tup ds => kyzAll n ds
  | _, _ => false
def kyzAll : Nat → List D → Bool
  | _, [] => true
  | n, d :: ds => kyz n d && kyzAll n ds
end
mutual
theorem kyz_facts : ∀ (d : D) (n : Nat), kyz n d = true → imm d = true ∧ kyb d = true ∧ (key d).depth ≤ n
  | .non, n, _ => ⟨rfl, rfl, Nat.zero_le _⟩
  | .bl _, n, _ => ⟨rfl, rfl, Nat.zero_le _⟩
  | .int _, n, _ => ⟨rfl, rfl, Nat.zero_le _⟩
  | .str x, n, h => ⟨rfl, rfl, Nat.zero_le _⟩
  | .tup ds, 0, h => by rw [kyz] at h; cases h
  | .tup ds, n + 1, h => by
    rw [kyz] at h
    obtain ⟨h1, h2, h3⟩ := kyzAll_facts ds n h
    exact ⟨by rw [imm]; exact h1, by rw [kyb]; exact h2, by rw [key, NestedKey.depth]; omega⟩
  | .lst _, n, h => by cases n <;> (rw [kyz] at h; cases h) <;> simp
  | .chn _ _ _, n, h => by cases n <;> (rw [kyz] at h; cases h) <;> simp
  | .dct _ _, n, h => by cases n <;> (rw [kyz] at h; cases h) <;> simp
theorem kyzAll_facts : ∀ (ds : List D) (n : Nat), kyzAll n ds = true → immAll ds = true ∧ kybAll ds = true ∧ NestedKey.depthAll (keyAll ds) ≤ n
  | [], n, _ => ⟨rfl, rfl, by rw [keyAll, NestedKey.depthAll]; exact Nat.zero_le _⟩
  | d :: ds, n, h => by
    rw [kyzAll, Bool.and_eq_true] at h
    obtain ⟨h1, h2, h3⟩ := kyz_facts d n h.1
    obtain ⟨k1, k2, k3⟩ := kyzAll_facts ds n h.2
    exact ⟨by rw [immAll, h1, k1]; rfl, by rw [kybAll, h2, k2]; rfl, by rw [keyAll, NestedKey.depthAll]; omega⟩
end
abbrev Kn : Type := Nat × List (Option Bool × Nat)
def dKe (l : List (Option Bool × Nat)) : List D := l.map fun p => .tup [dAn p.1, .int (p.2 : Int)]
def dK (a : Kn) : D := .tup (.int (a.1 : Int) :: dKe a.2)
theorem key_an {a b : Option Bool} (h : key (dAn a) = key (dAn b)) : a = b := by
  cases a with
  | none => cases b with
    | none => rfl
    | some b => simp [dAn, key] at h
  | some a => cases b with
    | none => simp [dAn, key] at h
    | some b => cases a <;> cases b <;> simp [dAn, key] at h ⊢
theorem dKe_inj : ∀ {l m : List (Option Bool × Nat)}, keyAll (dKe l) = keyAll (dKe m) → l = m
  | [], [], _ => rfl
  | [], _ :: _, h => by simp [dKe, keyAll] at h
  | _ :: _, [], h => by simp [dKe, keyAll] at h
  | a :: l, b :: m, h => by
    simp only [dKe, List.map_cons, keyAll, key, List.cons.injEq, NestedKey.tup.injEq, NestedKey.num.injEq, and_true] at h
    obtain ⟨⟨h1, h2⟩, h3⟩ := h
    have e : a = b := Prod.ext (key_an h1) (Int.ofNat.inj h2)
    rw [e, dKe_inj (l := l) (m := m) h3]
theorem dK_inj {a b : Kn} (h : key (dK a) = key (dK b)) : a = b := by
  simp only [dK, key, keyAll, NestedKey.tup.injEq, List.cons.injEq, NestedKey.num.injEq] at h
  exact Prod.ext (Int.ofNat.inj h.1) (dKe_inj h.2)
theorem kyz_an (n : Nat) (a : Option Bool) : kyz n (dAn a) = true := by
  cases a <;> cases n <;> simp [dAn, kyz]
theorem kyz_dKe : ∀ l : List (Option Bool × Nat), kyzAll 1 (dKe l) = true
  | [] => by simp [dKe, kyzAll]
  | a :: l => by
    have := kyz_dKe l
    unfold dKe at this ⊢
    rw [List.map_cons, kyzAll, this, kyz, kyzAll, kyzAll, kyzAll, kyz_an, kyz]; rfl
theorem kyz_dK (a : Kn) : kyz 2 (dK a) = true := by
  rw [dK, kyz, kyzAll, kyz_dKe, kyz]; rfl
theorem kix_dK {a : Kn} : ∀ {U : List Kn}, kix (U.map dK) (key (dK a)) = if a ∈ U then some (ixOf U a) else none
  | [] => rfl
  | b :: U => by
    rw [List.map_cons]
    by_cases e : b = a
    · subst e
      rw [kix_hit rfl, if_pos List.mem_cons_self, ix_self]
    · rw [kix_miss (fun q => e (dK_inj q)), kix_dK]
      by_cases q : a ∈ U
      · rw [if_pos q, if_pos (List.mem_cons_of_mem _ q), ix_ne e]; rfl
      · rw [if_neg q, if_neg (fun z => by rcases List.mem_cons.mp z with z | z; exact e z.symm; exact q z)]; rfl
theorem isK_dK {G : Gs} {H : Hp} {v : V} {a : Kn} (h : DAt G H v (dK a)) : IsK G H v (dK a) := by
  obtain ⟨h1, h2, h3⟩ := kyz_facts _ 2 (kyz_dK a)
  refine ⟨h, h2, Nat.le_trans h3 (by decide), ?_⟩
  unfold dK at h
  cases h with
  | tup _ _ => exact ⟨_, rfl⟩
theorem imm_dK (a : Kn) : imm (dK a) = true := (kyz_facts _ 2 (kyz_dK a)).1
/-- the states with numbers -/
def nd (rows : List D) (f : D → Nat) : D := .dct rows (rows.map fun s => .int (f s : Int))
def m_grouped (ds : List D) (r : D) : Prop := ∃ (rows : List D) (kk : D → Kn), rows.Nodup ∧ kydAll 3 rows = true ∧ (∀ d ∈ rows, ∃ es, d = .tup es) ∧ rows.length ≤ 60 ∧ ds = [.dct rows (rows.map fun s => dK (kk s))] ∧ r = nd rows (numOf rows kk)
theorem relV_eq {x y : V} {u : Value} (h : RelV x u) (k : RelV y u) : x = y := by
  cases x <;> cases y <;> simp only [L2.RelV] at h k <;> first | rfl | skip
  all_goals first | (subst h; cases k; done) | (subst h; cases k; rfl) | (obtain ⟨t, rfl⟩ := h; cases k; done) | (obtain ⟨t, rfl⟩ := h; obtain ⟨t', e⟩ := k; cases e; rfl) | (obtain ⟨t, rfl⟩ := h; obtain ⟨t', e⟩ := k; cases e) | (subst h; obtain ⟨t', e⟩ := k; cases e)
section
variable {X : Cx} {C CC aS aT : Addr} {H : Hp} {vs : List V} {ds : List D} {r : D}
theorem p_grouped (hm : m_grouped ds r) (h : DAll (gs X C) H vs ds) : SRet (gs X C) (t_grouped X C CC aS aT) (start N_grouped vs) H r := by
  obtain ⟨rows, kk, ndr, kr, htr, hlr, rfl, rfl⟩ := hm
  obtain ⟨x, rfl, h_rows⟩ := one_of h
  intro Dd H0 s0 q
  have h_rows := h_rows.mn s0
  obtain ⟨a, rfl⟩ : ∃ a, x = .ref a := by cases h_rows; exact ⟨_, rfl⟩
  refine q_setD (G := gs X C) (edd_new (X := X) (C := C)) fun np H1 nn s1 dN => ?_
  show tRet (tDcX _ _ _ _ _ _ _) Dd [some (.ref a), some (.ref np), none, none] H1
  obtain ⟨o, es, xs, src, e2, h3⟩ := (h_rows.dd).src
  have src1 : DSrc o a es H1 := ⟨s1 a _ src.at_, src.low, src.ex, src.dat, src.v, src.k⟩
  have sz : es.size = rows.length := src_size e2 h3
  refine ⟨.ref a, rfl, a, o, es, rfl, src1, fun p hp low => ?_⟩
  have np0 : H0 p = none := s1.free hp
  have npp : np ≠ p := by
    obtain ⟨o1, ho1⟩ := dN.some
    exact ne_of_none ho1 hp
  refine ⟨fun i m H' => m = rows.length - i ∧ i ≤ rows.length ∧ CD (gs X C) H0 p (rows.take i) ((rows.take i).map fun s => .int (numOf rows kk s : Int)) H' ∧
    DD (gs X C) H' np ((uniq ((rows.take i).map kk)).map dK) ((List.range (uniq ((rows.take i).map kk)).length).map fun (j : Nat) => D.int (j : Int)), ⟨rows.length, by simp, Nat.zero_le _, ?_, ?_⟩, ?_⟩
  · rw [List.take_zero]
    have := cd_start (G := gs X C) hp low
    exact ⟨s1.trans this.1, this.2⟩
  · rw [List.take_zero]
    exact dN.mn (.new hp)
  rintro i m H' ⟨rfl, hi, c, dU⟩
  have hat : H' a = some (objO a o) := c.1 a _ src.at_
  by_cases hlt : i < rows.length
  · refine .inr ⟨⟨hat, by omega⟩, fun H'' => CD (gs X C) H0 p (rows.take (i + 1)) ((rows.take (i + 1)).map fun s => .int (numOf rows kk s : Int)) H'' ∧ DD (gs X C) H'' np ((uniq ((rows.take (i + 1)).map kk)).map dK) ((List.range (uniq ((rows.take (i + 1)).map kk)).length).map fun (j : Nat) => D.int (j : Int)), fun H'' z => ⟨_, by omega, rfl, hlt, z⟩, fun x H'' y => ?_⟩
    obtain ⟨T, k, v, en, he, rk, rv, rfl, nT, rfl⟩ := y
    obtain ⟨b, s, d, v', u, q1, q2, q3, q4, q5, q6, q7⟩ := src_at e2 h3 he
    rw [q1] at rk
    rw [q2] at rv
    have ek : k = .ref b := relV_eq rk rfl
    have ev := relV_eq rv q7
    subst ek ev
    rw [List.getElem?_map, q3] at q4
    cases q4
    have hms := List.mem_of_getElem? q3
    have sT : Same H' (upd H' T (.tup [.ref b, v])) := .new nT
    have c1 : Same H0 (upd H' T (.tup [.ref b, v])) := c.1.trans sT
    have dpr : DAt (gs X C) (upd H' T (.tup [.ref b, v])) (.ref T) (.tup [s, dK (kk s)]) := .tup (.inl (.inl upd_same)) (.cons (q5.mn c1) (.cons (q6.mn c1) .nil))
    generalize hHT : upd H' T (.tup [.ref b, v]) = HT at sT c1 dpr
    show gTup _ 2 _ (.ref T) [some (.ref a), some (.ref np), none, none] HT _
    refine g_pair (G := gs X C) dpr fun y z d_val d_key => ⟨rfl, ?_⟩
    unfold tYes
    refine iteT ?_
    show tVar 2 [some (.ref a), some (.ref np), some y, some z] HT _
    refine ⟨y, rfl, ?_⟩
    have dUT := dU.mn sT
    have ulen : (uniq ((rows.take i).map kk)).length ≤ 60 := by
      have := uniq_len ((rows.take i).map kk)
      rw [List.length_map, List.length_take] at this
      omega
    refine ⟨.ref np, rfl, np, rfl, ⟨_, _, dUT.at⟩, ?_⟩
    refine (eda_cons (G := gs X C) (te := tVar 3) (tr := tCons (tCB (rLenU (gs X C)) (tCons (tVar 1) tNil)) tNil) (σ := [some (.ref a), some (.ref np), some y, some z]) (ed_var rfl d_key) (eda_cons (ed_cb (eda_cons (ed_var rfl dUT.at) eda_nil) rc_lenD) eda_nil)) HT (Same.refl HT) _ fun ws H5 s5 dws => ?_
    obtain ⟨w1, w2, rfl, dw1, dw2⟩ := two_of dws
    rw [List.length_map] at dw2
    have dU5 := dUT.mn s5
    have c5 : Same H0 H5 := c1.trans s5
    have cd5 : CD (gs X C) H0 p (rows.take i) ((rows.take i).map fun s => .int (numOf rows kk s : Int)) H5 := ⟨c5, (c.2.mn sT).mn s5⟩
    have et : (rows.take (i + 1)).map kk = (rows.take i).map kk ++ [kk s] := by rw [take_snoc q3, List.map_append]; rfl
    obtain ⟨mm, hmm⟩ := uniq_pre ((rows.take (i + 1)).map kk) ((rows.drop (i + 1)).map kk)
    rw [← List.map_append, List.take_append_drop] at hmm
    have hnum : numOf rows kk s = ixOf (uniq ((rows.take (i + 1)).map kk)) (kk s) := by
      unfold KM.numOf ixOf
      rw [hmm, idx_app (mem_uniq.mpr (by rw [et]; simp))]
    -- the store behind
    have put : ∀ z' H6, CD (gs X C) H0 p (rows.take i) ((rows.take i).map fun s => .int (numOf rows kk s : Int)) H6 → DAt (gs X C) H6 y s → z' = .int (numOf rows kk s : Int) → DD (gs X C) H6 np ((uniq ((rows.take (i + 1)).map kk)).map dK) ((List.range (uniq ((rows.take (i + 1)).map kk)).length).map fun (j : Nat) => D.int (j : Int)) →
        DcPut (gs X C) p y z' H6 fun H'' => CD (gs X C) H0 p (rows.take (i + 1)) ((rows.take (i + 1)).map fun s => .int (numOf rows kk s : Int)) H'' ∧ DD (gs X C) H'' np ((uniq ((rows.take (i + 1)).map kk)).map dK) ((List.range (uniq ((rows.take (i + 1)).map kk)).length).map fun (j : Nat) => D.int (j : Int)) := fun z' H6 c6 dy ez dU6 => by
      subst ez
      refine cd_put (G := gs X C) (d := .int (numOf rows kk s : Int)) (n := 3) np0 c6 (isK_tup (by decide) (htr s hms) (kyd_mem kr hms) dy) (.int _) (kyd_take kr i) (kyd_mem kr hms) (not_mem_take ndr q3) (immAll_iff.mpr fun r hr => by obtain ⟨e, he, rfl⟩ := List.mem_map.mp hr; rfl) rfl (by rw [List.length_take]; omega) fun H7 c7 w7 le7 => ⟨?_, ?_⟩
      · rw [take_snoc q3, List.map_append]; exact c7
      · exact dU6.wr w7 le7 npp (immAll_iff.mpr fun r hr => by obtain ⟨e, he, rfl⟩ := List.mem_map.mp hr; exact imm_dK e) (immAll_iff.mpr fun r hr => by obtain ⟨e, he, rfl⟩ := List.mem_map.mp hr; rfl)
    refine rDSd_dd (X := X) (C := C) (k := dK (kk s)) (d := .int ((uniq ((rows.take i).map kk)).length : Int)) dU5 (isK_dK dw1) dw2 (by rw [List.length_map]; omega) (immAll_iff.mpr fun r hr => ?_) (immAll_iff.mpr fun r hr => ?_) (fun e w he dw => ?_) (fun hk H6 w6 le6 dU6 => ?_)
    · rcases List.mem_append.mp hr with z | z
      · obtain ⟨e, he, rfl⟩ := List.mem_map.mp z; exact imm_dK e
      · rw [List.mem_singleton.mp z]; exact imm_dK _
    · rcases List.mem_append.mp hr with z | z
      · obtain ⟨e, he, rfl⟩ := List.mem_map.mp z; rfl
      · rw [List.mem_singleton.mp z]; rfl
    · unfold dget at he
      rw [kix_dK] at he
      by_cases hu : kk s ∈ uniq ((rows.take i).map kk)
      · rw [if_pos hu] at he
        have hlt2 := ix_lt hu
        have he : ((List.range (uniq ((rows.take i).map kk)).length).map fun (j : Nat) => D.int (j : Int))[ixOf (uniq ((rows.take i).map kk)) (kk s)]? = some e := he
        rw [List.getElem?_map, List.getElem?_range hlt2] at he
        cases he
        cases dw
        have eu : uniq ((rows.take (i + 1)).map kk) = uniq ((rows.take i).map kk) := by rw [et, uniq_snoc]; unfold add; rw [if_pos hu]
        refine put _ H5 cd5 (d_val.mn s5) (by rw [hnum, eu]) (by rw [eu]; exact dU5)
      · rw [if_neg hu] at he; cases he
    · have hu : kk s ∉ uniq ((rows.take i).map kk) := fun z => by rw [kix_dK, if_pos z] at hk; cases hk
      have eu : uniq ((rows.take (i + 1)).map kk) = uniq ((rows.take i).map kk) ++ [kk s] := by rw [et, uniq_snoc]; unfold add; rw [if_neg hu]
      cases dw2
      refine put _ H6 ⟨w6.same nn c5, cd5.2.wr w6 le6 (fun e => npp e.symm) (immAll_kyd (kyd_take kr i)) (immAll_iff.mpr fun r hr => by obtain ⟨e, he, rfl⟩ := List.mem_map.mp hr; rfl)⟩ ((d_val.mn s5).lm (imm_kyd (kyd_mem kr hms)) le6) (by rw [hnum, eu, ix_new hu]) ?_
      rw [eu, List.map_append, List.length_append, List.length_singleton, List.range_succ, List.map_append]
      exact dU6
  · have e : i = rows.length := by omega
    subst e
    rw [List.take_length] at c
    exact .inl ⟨⟨hat, by omega⟩, q _ H' c.1 c.2.at⟩
end
end K3

set_option Elab.async false
set_option linter.all false
set_option maxRecDepth 100000
set_option maxHeartbeats 1000000
/-! The groups of the states: what the program answers. -/
namespace K3
open PySem PySem.Spec PyProof.Rows L2 He KM
def unEv : D → Option Ev
  | .tup [.str _] => some .tick
  | .tup [.str _, .int k] => some (.ask k.toNat)
  | _ => none
theorem unEv_dEv (e : Ev) : unEv (dEv e) = some e := by
  cases e with
  | tick => rfl
  | ask k => show some (Ev.ask (k : Int).toNat) = _; rw [Int.toNat_natCast]
theorem evs_fm {es : List Ev} {g : Ev → D} : (es.map dEv).filterMap (fun x => (unEv x).map g) = es.map g := by
  induction es with
  | nil => rfl
  | cons e es ih => rw [List.map_cons, List.filterMap_cons, unEv_dEv, ih]; rfl
def m_looked (ds : List D) (r : D) : Prop := ∃ c d e rows f, OkC c ∧ WfS c d ∧ e ∈ evsOf c ∧ (step c d e).2 ∈ rows ∧ kydAll 3 rows = true ∧ ds = [dCh c, d, dEv e, nd rows f] ∧ r = .tup [dAn (step c d e).1, .int (f (step c d e).2 : Int)]
def m_key_of (ds : List D) (r : D) : Prop := ∃ c d rows f, OkC c ∧ WfS c d ∧ d ∈ rows ∧ (∀ e ∈ evsOf c, (step c d e).2 ∈ rows) ∧ kydAll 3 rows = true ∧ ds = [dCh c, d, nd rows f] ∧ r = dK (keyF (evsOf c) (step c) f d)
/-- what groups_of promises -/
def spG (G : Gs) : Sp := fun vs H Q _ => ∃ c rows, OkC c ∧ Rch c rows ∧ rows.length ≤ 60 ∧ DAll G H vs [dCh c, .lst rows] ∧ ∀ f v H', Good (evsOf c) (step c) rows f → Same H H' → DAt G H' v (nd rows f) → Q v H'
/-- a def whose walk and whose promise are told -/
theorem cal_gen {P : Program} {w : World} {K : PySem.W.Frag} {mg : Str → Option Value} {base : Heap} {d : DefM} {fd : FuncData} {N ps : List Str} {k : Nat} {sp : Sp} {t : Cx → TS} (Fd : FunM K d fd) (S : FnScope N ps (defScope d.st)) (b : Binds K fd ps []) (hm : mg d.name = some (.ref (d.adr K)))
    (len : ∀ vs H Q E, sp vs H Q E → vs.length = ps.length)
    (walk : ∀ (cdv : Value) (A : Around) (outer : List Env) (s : Shared) (H : Hp) (E : XK), Room k (XX P w K mg base d N (d.adr K) cdv A outer s H E).A → PSs (XX P w K mg base d N (d.adr K) cdv A outer s H E) (defBody d.st) (t (XX P w K mg base d N (d.adr K) cdv A outer s H E)))
    (pure : ∀ (X : Cx), X.prog = P → X.w = w → X.K = K → ∀ vs H Q E, sp vs H Q E → t X { nx := fun _ H' => Q .non H', rt := Q } (start N vs) H) :
    C8.Cal P w K mg base (k + 1) d.name sp [] := by
  refine ⟨d.adr K, fd, ps, [], ?_, hm, Fd.kp, b, .nil⟩
  refine Fd.ok S len (fun cdv A outer s H vs Q E hr h => ⟨_, (walk cdv A outer s H E hr).nox, ?_⟩)
  exact pure (XX P w K mg base d N (d.adr K) cdv A outer s H E) rfl rfl rfl vs H Q E h
section
variable {X : Cx} {C CC aS aT : Addr} {H : Hp} {vs : List V} {ds : List D} {r : D}
theorem rd_nd {G : Gs} {rows : List D} {f : D → Nat} {s : D} {c : Ch} (w : WfS c s) (kr : kydAll 3 rows = true) (h : s ∈ rows) : RD2 G (rIxU G) (nd rows f) s (.int (f s : Int)) := by
  obtain ⟨es, rfl⟩ := wfS_tup w
  exact fun H u v Q hu hv q => by
    obtain ⟨b, rfl⟩ : ∃ b, u = .ref b := by cases hu; exact ⟨_, rfl⟩
    exact .inr ⟨.tup es, b, rows, _, _, rfl, isK_of (by decide) (wfS_kyd w) hv, hu, dget_map (f := fun s => .int (f s : Int)) (wfS_kyd w) kr h, fun w hw => q w H (Same.refl H) hw⟩
theorem p_looked (hm : m_looked ds r) (h : DAll (gs X C) H vs ds) : SRet (gs X C) (t_looked X C CC aS aT (spD (gs X C) m_after_event)) (start N_looked vs) H r := by
  obtain ⟨c, d, e, rows, f, ok, wf, he, hin, kr, rfl, rfl⟩ := hm
  obtain ⟨x, y, z, u, rfl, h_chain, h_value, h_event, h_found⟩ := four_of h
  refine sr_asg2 (G := gs X C) (ed_call (dom := m_after_event) (eda_cons (ed_var rfl h_chain) (eda_cons (ed_var rfl h_value) (eda_cons (ed_var rfl h_event) eda_nil))) ⟨c, d, e, ok, wf, he, rfl, rfl⟩) fun v w H1 s1 h_an h_later => ?_
  exact sr_ret (ed_tup (eda_cons (ed_var rfl h_an) (eda_cons (ed_op (ed_var rfl (h_found.mn s1)) (ed_var rfl h_later) (rd_nd (wf_step ok wf he) kr hin)) eda_nil)) (by show 2 ≤ 100000; decide))
theorem p_key_of (hm : m_key_of ds r) (h : DAll (gs X C) H vs ds) : SRet (gs X C) (t_key_of X C CC aS aT (spD (gs X C) m_events) (spD (gs X C) m_looked)) (start N_key_of vs) H r := by
  obtain ⟨c, d, rows, f, ok, wf, hd, hc, kr, rfl, rfl⟩ := hm
  obtain ⟨x, y, z, rfl, h_chain, h_value, h_found⟩ := three_of h
  have hf := ok.f2
  have le : (evsOf c).length ≤ 3 := by unfold evsOf; simp; omega
  have e1 : dK (keyF (evsOf c) (step c) f d) = .tup (.int (f d : Int) :: (((evsOf c).map fun e => D.tup [dAn (step c d e).1, .int (f (step c d e).2 : Int)]) ++ [])) := by
    unfold keyF dK dKe
    rw [List.append_nil, List.map_map]; rfl
  rw [e1]
  refine sr_ret (ed_tup (eda_cons (ed_op (ed_var rfl h_found) (ed_var rfl h_value) (rd_nd wf kr hd)) (eda_starL (G := gs X C) (Ed.is (EdN.ed (ed_lcL (G := gs X C) (ds := (evsOf c).map dEv) (fun x => (unEv x).map fun e => .tup [dAn (step c d e).1, .int (f (step c d e).2 : Int)]) (by rw [List.length_map]; omega) (ed_call (dom := m_events) (eda_cons (ed_var rfl h_chain) eda_nil) ⟨c, ok, rfl, rfl⟩) (fun d' hd' r hr => ?_) (fun d' hd' x' H1 s1 dx => ?_))) (by rw [evs_fm])) eda_nil)) ?_)
  · obtain ⟨e, he, rfl⟩ := List.mem_map.mp hd'
    rw [unEv_dEv] at hr
    cases hr
    rw [imm, immAll, immAll, immAll, imm]
    cases (step c d e).1 <;> rfl
  · obtain ⟨e, he, rfl⟩ := List.mem_map.mp hd'
    rw [unEv_dEv]
    refine ct_name rfl et_yes fun r hr => ?_
    cases hr
    exact ed_call (dom := m_looked) (eda_cons (ed_var rfl (h_chain.mn s1)) (eda_cons (ed_var rfl (h_value.mn s1)) (eda_cons (ed_var rfl dx) (eda_cons (ed_var rfl (h_found.mn s1)) eda_nil)))) ⟨c, d, e, rows, f, ok, wf, he, hc e he, kr, rfl, rfl⟩
  · simp; omega
theorem cnt_int {rows : List D} {f : D → Nat} : (uniq (rows.map fun s => (f s : Int))).length = cnt rows f := by
  unfold KM.cnt
  exact uniq_map_inj fun a _ b _ => ⟨fun h => Int.ofNat.inj h, fun h => by rw [h]⟩
theorem nd_form (rows : List D) (f : D → Nat) : nd rows f = .dct rows ((rows.map fun s => (f s : Int)).map .int) := by unfold nd; rw [List.map_map]; rfl
/-- what stands ahead of each turn -/
def GW (G : Gs) (H0 : Hp) (x vl : V) (c : Ch) (rows : List D) (m : Nat) (σ' : L2.St) (H' : Hp) : Prop :=
  ∃ fv w4 w5 many f, σ' = [some x, some vl, some fv, some (.int (many : Nat)), w4, w5] ∧ Same H0 H' ∧ DAt G H' fv (nd rows f) ∧ m = rows.length - many ∧ Keeps (evsOf c) (step c) rows f ∧
    (many = 0 ∨ ∃ f0, many = cnt rows f0 ∧ Keeps (evsOf c) (step c) rows f0 ∧ f = regroup (evsOf c) (step c) rows f0)
theorem p_groups_of {Q : VK} {E : XK} {Dd : Ends} (hD : Dd.rt = Q) (h : spG (gs X C) vs H Q E) : t_groups_of X C CC aS aT (spD (gs X C) m_key_of) (spD (gs X C) m_grouped) Dd (start N_groups_of vs) H := by
  obtain ⟨c, rows, ok, hr, hl, hda, q⟩ := h
  obtain ⟨x, vl, rfl, h_chain, h_vals⟩ := two_of hda
  have wfr := hr.wf ok
  have hc := hr.closed
  have hne := hr.ne
  have kr := kyd_all wfr
  have htr : ∀ d ∈ rows, ∃ es, d = .tup es := fun d hd => wfS_tup (wfr d hd)
  refine q_setD (G := gs X C) (edd_list (G := gs X C) (fun _ => .int 0) (by decide) htr kr hr.nodup (by omega) (fun d hd => rfl) (ed_var rfl h_vals) (by show 4 < 6; decide) (fun d hd y H1 s1 dy => ed_int)) fun fv H1 nf s1 d1 => ?_
  refine q_set (G := gs X C) ed_int fun v3 H2 s2 d3 => ?_
  cases d3
  refine ⟨GW (gs X C) H x vl c rows, ⟨_, .ref fv, none, none, 0, fun _ => 0, rfl, s1.trans s2, (d1.mn s2).at, rfl, fun _ _ _ _ _ => rfl, .inl rfl⟩, fun m σ' H3 p => ?_⟩
  obtain ⟨fv, w4, w5, many, f, rfl, s3, df, rfl, kf, hmany⟩ := p
  have hxx := h_chain.mn s3
  have hvv := h_vals.mn s3
  have lenE : ∀ σ1 : L2.St, σ1 = [some x, some vl, some fv, some (.int (many : Nat)), w4, w5] → ∀ H4, DAt (gs X C) H4 fv (nd rows f) → Ed (gs X C) (tCB (rLenU (gs X C)) (tCons (tDcX (gs X C) (iDV (tVar 2)) (gName 5) tYes (tVar 5) (tC (.bl true)) [5]) tNil)) σ1 H4 (.int (cnt rows f : Int)) := fun σ1 e H4 d4 => by
    subst e
    rw [nd_form] at d4
    refine Ed.is (ed_lenI (edi_vals (by rw [List.length_map]; omega) (ed_var rfl d4) (by show 5 < 6; decide))) ?_
    rw [cnt_int]
  refine (et_test (ed_op (G := gs X C) (ed_var (σ := [some x, some vl, some fv, some (.int (many : Nat)), w4, w5]) rfl (.int _)) (lenE _ rfl H3 df) rd_B0)) H3 (Same.refl H3) _ fun H4 s4 => ?_
  have df4 := df.mn s4
  by_cases hlt : many < cnt rows f
  · rw [decide_eq_true (by omega)]
    refine iteT ⟨fun σ'' H'' => ∃ m', m' < rows.length - many ∧ GW (gs X C) H x vl c rows m' σ'' H'', fun _ _ z => z, ?_⟩
    refine q_set (G := gs X C) (lenE _ rfl H4 df4) fun v3 H5 s5 d3 => ?_
    cases d3
    have df5 := df4.mn s5
    have s45 : Same H3 H5 := Same.trans s4 s5
    refine s_set (G := gs X C) (d := nd rows (KM.numOf rows (keyF (evsOf c) (step c) f))) (ed_call (dom := m_grouped) (eda_cons (EdD.ed (edd_list (G := gs X C) (fun s => dK (keyF (evsOf c) (step c) f s)) (by decide) htr kr hr.nodup (by omega) (fun d hd => imm_dK _) (ed_var rfl (hvv.mn s45)) (by show 4 < 6; decide) (fun d hd y H6 s6 dy => ?_))) eda_nil) ⟨rows, _, hr.nodup, kr, htr, hl, rfl, rfl⟩) fun fv2 H6 s6 df6 => ?_
    · exact ed_call (dom := m_key_of) (eda_cons (ed_var rfl ((hxx.mn s45).mn s6)) (eda_cons (ed_var rfl dy) (eda_cons (ed_var rfl (df5.mn s6)) eda_nil))) ⟨c, d, rows, f, ok, wfr d hd, hd, hc d hd, kr, rfl, rfl⟩
    · have hle : cnt rows f ≤ rows.length := cnt_le
      exact ⟨rows.length - cnt rows f, by omega, fv2, w4, w5, cnt rows f, _, rfl, s3.trans (s45.trans s6), df6, rfl, keeps_re hc kf, .inr ⟨f, rfl, kf, rfl⟩⟩
  · rw [decide_eq_false (by omega)]
    refine iteF ?_
    rcases hmany with e | ⟨f0, e, k0, rfl⟩
    · have := cnt_pos (f := f) hne
      omega
    · refine ⟨fv, rfl, ?_⟩
      rw [hD]
      exact q _ fv H4 (good_of hc k0 (by omega)) (Same.trans s3 s4) df4
end
end K3

set_option Elab.async false
set_option linter.all false
set_option maxRecDepth 100000
set_option maxHeartbeats 1000000
/-! The listed classes: what the program answers. -/
namespace K3
open PySem PySem.Spec PyProof.Rows L2 He KM

/-- a list of lists of one's own -/
structure OL (G : Gs) (H0 H : Hp) (l : Addr) (as : List Addr) (gs : List (List D)) : Prop where
  at_ : H l = some (.lst (as.map V.ref))
  len : as.length = gs.length
  nd : as.Nodup
  ne : l ∉ as
  free : ∀ a ∈ as, H0 a = none
  get : ∀ (j : Nat) a g, as[j]? = some a → gs[j]? = some g → ∃ us, H a = some (.lst us) ∧ DAll G H us g
section
variable {G : Gs} {H0 H H' : Hp} {l : Addr} {as : List Addr} {gs : List (List D)}
theorem OL.mn (o : OL G H0 H l as gs) (s : Same H H') : OL G H0 H' l as gs :=
  ⟨s l _ o.at_, o.len, o.nd, o.ne, o.free, fun j a g ha hg => let ⟨us, h1, h2⟩ := o.get j a g ha hg; ⟨us, s a _ h1, h2.mn s⟩⟩
theorem OL.all : ∀ {as : List Addr} {gs : List (List D)}, as.length = gs.length → (∀ (j : Nat) a g, as[j]? = some a → gs[j]? = some g → ∃ us, H a = some (.lst us) ∧ DAll G H us g) → DAll G H (as.map V.ref) (gs.map D.lst)
  | [], [], _, _ => .nil
  | a :: as, g :: gs, h, k => by
    obtain ⟨us, h1, h2⟩ := k 0 a g rfl rfl
    exact .cons (.lst (.inl (.inl h1)) h2) (OL.all (by simpa using h) fun j a g ha hg => k (j + 1) a g (by simpa using ha) (by simpa using hg))
  | [], _ :: _, h, _ => by simp at h
  | _ :: _, [], h, _ => by simp at h
theorem OL.at (o : OL G H0 H l as gs) : DAt G H (.ref l) (.lst (gs.map .lst)) := .lst (.inl (.inl o.at_)) (OL.all o.len o.get)
theorem nodup_get {as : List Addr} (nd : as.Nodup) {i j : Nat} {a : Addr} (h : as[i]? = some a) (k : as[j]? = some a) : i = j := by
  obtain ⟨h1, h2⟩ := List.getElem?_eq_some_iff.mp h
  obtain ⟨k1, k2⟩ := List.getElem?_eq_some_iff.mp k
  exact (List.getElem_inj nd).mp (h2.trans k2.symm)
/-- one more in the j-th list -/
theorem OL.app (o : OL G H0 H l as gs) {j : Nat} {a : Addr} {g : List D} {us : List V} {v : V} {d : D} (im : ∀ g ∈ gs, immAll g = true) (ha : as[j]? = some a) (hg : gs[j]? = some g) (hu : H a = some (.lst us)) (dg : DAll G H us g) (dv : DAt G H v d) (id : imm d = true) :
    OL G H0 (upd H a (.lst (us ++ [v]))) l as (gs.set j (g ++ [d])) ∧ Le H (upd H a (.lst (us ++ [v]))) := by
  have le : Le H (upd H a (.lst (us ++ [v]))) := .wr fun u e f => by rw [hu] at e; cases e; exact f
  have hm := List.mem_of_getElem? ha
  have hj : j < gs.length := (List.getElem?_eq_some_iff.mp hg).1
  refine ⟨⟨by rw [upd_ne (fun e => o.ne (by rw [e]; exact hm))]; exact o.at_, by rw [List.length_set]; exact o.len, o.nd, o.ne, o.free, fun i b g' hb hg' => ?_⟩, le⟩
  by_cases e : j = i
  · subst e
    rw [ha] at hb; cases hb
    rw [List.getElem?_set_self hj] at hg'
    cases hg'
    exact ⟨_, upd_same, (dg.snoc dv).lm (by rw [immAll_append, im g (List.mem_of_getElem? hg)]; rw [immAll, id]; rfl) le⟩
  · rw [List.getElem?_set_ne e] at hg'
    obtain ⟨us', h1, h2⟩ := o.get i b g' hb hg'
    have ne : b ≠ a := fun q => by subst q; exact e (nodup_get o.nd ha hb)
    exact ⟨us', by rw [upd_ne ne]; exact h1, h2.lm (im g' (List.mem_of_getElem? hg')) le⟩
/-- a new list at the end -/
theorem OL.push (o : OL G H0 H l as gs) {p : Addr} {us : List V} {g : List D} (im : ∀ g ∈ gs, immAll g = true) (hp : H p = some (.lst us)) (dg : DAll G H us g) (ig : immAll g = true) (np : p ∉ as) (nl : p ≠ l) (n0 : H0 p = none) :
    OL G H0 (upd H l (.lst (as.map V.ref ++ [.ref p]))) l (as ++ [p]) (gs ++ [g]) ∧ Le H (upd H l (.lst (as.map V.ref ++ [.ref p]))) := by
  have le : Le H (upd H l (.lst (as.map V.ref ++ [.ref p]))) := .wr fun u e f => by rw [o.at_] at e; cases e; exact f
  refine ⟨⟨by rw [upd_same, List.map_append]; rfl, by simp [o.len], nodup_snoc o.nd np, fun hm => ?_, fun a ha => ?_, fun i b g' hb hg' => ?_⟩, le⟩
  · rcases List.mem_append.mp hm with z | z
    · exact o.ne z
    · exact nl (List.mem_singleton.mp z).symm
  · rcases List.mem_append.mp ha with z | z
    · exact o.free a z
    · rw [List.mem_singleton.mp z]; exact n0
  · have hi := (List.getElem?_eq_some_iff.mp hb).1
    rw [List.length_append, List.length_singleton] at hi
    by_cases q : i < as.length
    · rw [List.getElem?_append_left q] at hb
      rw [List.getElem?_append_left (by rw [← o.len]; exact q)] at hg'
      obtain ⟨us', h1, h2⟩ := o.get i b g' hb hg'
      have ne : b ≠ l := fun e => o.ne (by rw [← e]; exact List.mem_of_getElem? hb)
      exact ⟨us', by rw [upd_ne ne]; exact h1, h2.lm (im g' (List.mem_of_getElem? hg')) le⟩
    · have e : i = as.length := by omega
      subst e
      rw [List.getElem?_append_right (Nat.le_refl _), Nat.sub_self] at hb
      rw [o.len, List.getElem?_append_right (Nat.le_refl _), Nat.sub_self] at hg'
      cases hb; cases hg'
      exact ⟨us, by rw [upd_ne nl]; exact hp, dg.lm ig le⟩
theorem OL.same {H1 : Hp} (o : OL G H0 H l as gs) (s : Same H0 H) {a : Addr} {u : HO} (ha : a ∈ as ∨ H0 a = none) : Same H0 (upd H a u) := s.mut (ha.elim (o.free a) id)
end
theorem pairs_len {P : Program} {w : World} {K : Type} [DecidableEq K] {knd : PySem.KeyKind P w K} : ∀ {es : List DictEntry} {kvs : List (K × Value)}, Pairs knd es kvs → es.length = kvs.length
  | _, _, .nil => rfl
  | _, _, .cons _ _ t => by rw [List.length_cons, List.length_cons, pairs_len t]
theorem pairs_get {P : Program} {w : World} {K : Type} [DecidableEq K] {knd : PySem.KeyKind P w K} : ∀ {es : List DictEntry} {kvs : List (K × Value)}, Pairs knd es kvs → ∀ e ∈ es, ∃ kv ∈ kvs, knd.is kv.1 e.key = true ∧ e.val = kv.2
  | _, _, .nil, _, h => by cases h
  | _, _, .cons a b t, e, h => by
    rcases List.mem_cons.mp h with rfl | h
    · exact ⟨_, List.mem_cons_self, a, b⟩
    · obtain ⟨kv, h1, h2⟩ := pairs_get t e h
      exact ⟨kv, List.mem_cons_of_mem _ h1, h2⟩
/-- an int dict as a source of a walk -/
theorem IDc.src {P : Program} {w : World} {p : Addr} {o : Obj} {kvs : List (Int × Value)} {H : Hp} (h : H p = some (objO p o)) (i : IDc P w p o kvs) (v : ∀ kv ∈ kvs, kv.2 = .bool true) : ∃ es, DSrc o p es H ∧ es.size = kvs.length := by
  obtain ⟨es, ep, ex, hd, hp⟩ := i.raw
  have mem : ∀ (j : Nat) (e : DictEntry), es[j]? = some e → e ∈ es.toList := fun j e he => by
    have : es.toList[j]? = some e := by rw [Array.getElem?_toList]; exact he
    exact List.mem_of_getElem? this
  refine ⟨es, ⟨h, i.low, ex, ⟨ep, hd⟩, fun j e he => ?_, fun j e he => ?_⟩, by rw [← Array.length_toList, pairs_len hp]⟩
  · obtain ⟨kv, hk, _, q⟩ := pairs_get hp e (mem j e he)
    exact ⟨.bl true, by rw [q, v kv hk]; rfl⟩
  · obtain ⟨kv, hk, q, _⟩ := pairs_get hp e (mem j e he)
    obtain ⟨t, e⟩ := Value.isInt_shape (k := kv.1) (v := e.key) q
    exact ⟨.int kv.1, t, e⟩
/-- [[] for x in numbers] -/
theorem lc_nils {G : Gs} {σ : L2.St} {H : Hp} {td : TE} {j : Nat} {ns : List Int} (h : EdI G td σ H ns) (hl : ns.length ≤ 40000) :
    ∀ H1, Same H H1 → ∀ Q : VK, (∀ l as H2, H1 l = none → Same H1 H2 → OL G H1 H2 l as (List.replicate ns.length []) → Q (.ref l) H2) → tLc (iDK td) (gName j) tYes (tLst tNil) [j] σ H1 Q := fun H1 s Q q =>
  h H1 s _ fun p o kvs H2 np s2 h1 h2 h3 h4 => by
    obtain ⟨es, src, sz⟩ := IDc.src h1 h2 h4
    have lk : kvs.length = ns.length := by rw [← h3, List.length_map]
    refine ⟨p, o, es, rfl, src, fun l hl0 => ?_⟩
    refine ⟨fun i m H' => m = ns.length - i ∧ i ≤ ns.length ∧ Same H2 H' ∧ ∃ as, OL G H2 H' l as (List.replicate i []), ⟨ns.length, by simp, Nat.zero_le _, .new hl0, [], ⟨upd_same, rfl, List.nodup_nil, (by simp), (fun a ha => by cases ha), (fun j a g ha _ => by simp at ha)⟩⟩, ?_⟩
    rintro i m H' ⟨rfl, hi, s', as, ol⟩
    have hat : H' p = some (objO p o) := s' p _ h1
    by_cases hlt : i < ns.length
    · refine .inr ⟨⟨hat, by omega⟩, fun H'' => Same H2 H'' ∧ ∃ as, OL G H2 H'' l as (List.replicate (i + 1) []), fun H'' z => ⟨_, by omega, rfl, hlt, z⟩, fun x H'' y => ?_⟩
      obtain ⟨e, en, he, rx⟩ := y
      subst e
      refine ⟨by unfold wipe; simp [wipe, List.set_set], ?_⟩
      unfold tYes
      refine iteT ?_
      refine (edn_lst (G := G) (t := tNil) eda_nil (by show 0 ≤ 100000; decide)) H'' (Same.refl H'') _ fun q' us H4 nq s4 hq da => ?_
      have ol4 := ol.mn s4
      have len : as.length = i := by rw [ol.len, List.length_replicate]
      have nqa : q' ∉ as := fun hm => by
        obtain ⟨k, hk, ek⟩ := List.mem_iff_getElem.mp hm
        obtain ⟨us', z, _⟩ := ol.get k q' [] (by rw [List.getElem?_eq_getElem hk, ek]) (by rw [List.getElem?_replicate, if_pos (by omega)])
        rw [nq] at z; cases z
      have nql : q' ≠ l := fun e => by rw [e, ol.at_] at nq; cases nq
      refine ⟨as.map V.ref, ol4.at_, Evl.sz_lt (by rw [List.length_map]; omega), ?_⟩
      obtain ⟨o2, le⟩ := ol4.push (fun g hg => by rw [(List.mem_replicate.mp hg).2]; rfl) hq da rfl nqa nql (s'.free nq)
      refine ⟨(s'.trans s4).mut hl0, as ++ [q'], ?_⟩
      rw [List.replicate_succ']; exact o2
    · have e : i = ns.length := by omega
      subst e
      exact .inl ⟨⟨hat, by omega⟩, q l as H' (s2.free hl0) (s2.trans s') ⟨ol.at_, ol.len, ol.nd, ol.ne, fun a ha => s2.free (ol.free a ha), ol.get⟩⟩
end K3

set_option Elab.async false
set_option linter.all false
set_option maxRecDepth 100000
set_option maxHeartbeats 1000000
/-! The listed classes: what the program answers. -/
namespace K3
open PySem PySem.Spec PyProof.Rows L2 He KM
abbrev TwC (c : Ch) : D → D → Prop := Tw (evsOf c) (step c)
noncomputable def clsC (c : Ch) (rows : List D) : List (List D) := cls (TwC c) rows
def lls (gs : List (List D)) : D := .lst (gs.map .lst)
def m_listed (ds : List D) (r : D) : Prop := ∃ c rows, OkC c ∧ Rch c rows ∧ rows.length ≤ 60 ∧ ds = [dCh c] ∧ r = lls (clsC c rows)
theorem uniq_take {c : Ch} {rows : List D} {f : D → Nat} (i : Nat) : (uniq ((rows.take i).map f)).length ≤ KM.cnt rows f := by
  obtain ⟨m, h⟩ := uniq_pre ((rows.take i).map f) ((rows.drop i).map f)
  rw [← List.map_append, List.take_append_drop] at h
  unfold KM.cnt
  rw [h, List.length_append]; omega
noncomputable def pad (c : Ch) (rows : List D) (m i : Nat) : List (List D) := clsC c (rows.take i) ++ List.replicate (m - (clsC c (rows.take i)).length) []
theorem pad_step {c : Ch} {rows : List D} {f : D → Nat} {i : Nat} {s : D} (g : Good (evsOf c) (step c) rows f) (h : rows[i]? = some s) : ∃ g, (pad c rows (KM.cnt rows f) i)[f s]? = some g ∧ pad c rows (KM.cnt rows f) (i + 1) = (pad c rows (KM.cnt rows f) i).set (f s) (g ++ [s]) := by
  obtain ⟨hlt, e⟩ := List.getElem?_eq_some_iff.mp h
  have e1 : rows = rows.take i ++ s :: rows.drop (i + 1) := by rw [← e, ← List.drop_eq_getElem_cons hlt, List.take_append_drop]
  have I := cls_inv (T := TwC c) g.tw g.ord i (by omega)
  have I1 := cls_inv (T := TwC c) g.tw g.ord (i + 1) (by omega)
  have hl1 : (clsC c (rows.take (i + 1))).length ≤ KM.cnt rows f := by unfold clsC; rw [I1.len]; exact uniq_take (c := c) _
  have et := take_snoc h
  unfold pad
  rcases cls_step (T := TwC c) e1 g.tw g.ord I.mem I.all I.nb I.len with ⟨gg, hg, hs⟩ | ⟨hf, hs⟩
  · have hj : f s < (clsC c (rows.take i)).length := (List.getElem?_eq_some_iff.mp hg).1
    refine ⟨gg, by rw [List.getElem?_append_left hj]; exact hg, ?_⟩
    have hs' : clsC c (rows.take (i + 1)) = (clsC c (rows.take i)).set (f s) (gg ++ [s]) := by rw [et]; exact hs
    rw [List.set_append_left _ _ hj, hs', List.length_set]
  · have hs' : clsC c (rows.take (i + 1)) = clsC c (rows.take i) ++ [[s]] := by rw [et]; exact hs
    have hf' : f s = (clsC c (rows.take i)).length := hf
    rw [hs', List.length_append, List.length_singleton] at hl1
    have hk : KM.cnt rows f - (clsC c (rows.take i)).length = (KM.cnt rows f - ((clsC c (rows.take i)).length + 1)) + 1 := by omega
    refine ⟨[], ?_, ?_⟩
    · rw [List.getElem?_append_right (by omega), hf', Nat.sub_self, hk, List.replicate_succ]; rfl
    · rw [hs', List.length_append, List.length_singleton, List.set_append_right _ _ (by omega), hf', Nat.sub_self, hk, List.replicate_succ, List.set_cons_zero, List.append_assoc]; rfl
theorem pad_end {c : Ch} {rows : List D} {f : D → Nat} (g : Good (evsOf c) (step c) rows f) : pad c rows (KM.cnt rows f) rows.length = clsC c rows := by
  have I := cls_inv (T := TwC c) g.tw g.ord rows.length (Nat.le_refl _)
  unfold pad
  rw [List.take_length] at I ⊢
  have e : (clsC c rows).length = KM.cnt rows f := I.len
  rw [e, Nat.sub_self, List.replicate_zero, List.append_nil]
theorem pad_mem {c : Ch} {rows : List D} {f : D → Nat} {m i : Nat} (g : Good (evsOf c) (step c) rows f) (hi : i ≤ rows.length) : ∀ gg ∈ pad c rows m i, ∀ x ∈ gg, x ∈ rows := fun gg hg x hx => by
  have I := cls_inv (T := TwC c) g.tw g.ord i hi
  unfold pad at hg
  rcases List.mem_append.mp hg with z | z
  · exact List.mem_of_mem_take (I.mem gg z x hx)
  · rw [(List.mem_replicate.mp z).2] at hx; cases hx
theorem insG_len {T : D → D → Prop} {v : D} {n : Nat} : ∀ {gs : List (List D)}, (∀ g ∈ gs, g.length ≤ n) → ∀ g ∈ insG T v gs, g.length ≤ n + 1
  | [], _, g, hg => by
    rw [insG] at hg
    rw [List.mem_singleton.mp hg]; simp
  | a :: gs, h, g, hg => by
    rw [insG] at hg
    split at hg
    · rcases List.mem_cons.mp hg with z | z
      · rw [z, List.length_append]
        have := h a List.mem_cons_self
        simp; omega
      · have := h g (List.mem_cons_of_mem _ z)
        omega
    · rcases List.mem_cons.mp hg with z | z
      · rw [z]
        have := h a List.mem_cons_self
        omega
      · exact insG_len (fun x hx => h x (List.mem_cons_of_mem _ hx)) g z
theorem cls_len {T : D → D → Prop} : ∀ (rows : List D), ∀ g ∈ cls T rows, g.length ≤ rows.length := fun rows => KM.snoc_ind (P := fun rows => ∀ g ∈ cls T rows, g.length ≤ rows.length) (fun g hg => by cases hg) (fun l a ih g hg => by
  rw [cls_snoc] at hg
  rw [List.length_append]
  exact insG_len ih g hg) rows
theorem grp_len {c : Ch} {rows : List D} {f : D → Nat} {m i : Nat} (_ : Good (evsOf c) (step c) rows f) (hi : i ≤ rows.length) (hl : rows.length ≤ 60) {g : List D} (hg : g ∈ pad c rows m i) : g.length < 100000 := by
  unfold pad at hg
  rcases List.mem_append.mp hg with z | z
  · have := cls_len (T := TwC c) (rows.take i) g z
    rw [List.length_take] at this
    omega
  · rw [(List.mem_replicate.mp z).2]; decide
section
variable {X : Cx} {C CC aS aT : Addr} {H : Hp} {vs : List V} {ds : List D} {r : D}
theorem q_callG {G : Gs} {σ : L2.St} {H : Hp} {z : TS} {Dd : Ends} {i : Nat} {ta : TA} {E : XK} {c : Ch} {rows : List D} (h : EdA G ta σ H [dCh c, .lst rows]) (ok : OkC c) (hr : Rch c rows) (hl : rows.length ≤ 60)
    (k : ∀ f v H1, Good (evsOf c) (step c) rows f → Same H H1 → DAt G H1 v (nd rows f) → z Dd (σ.set i (some v)) H1) : tSeq (tAsg (tCall (spG G) [] E ta) (gName i)) z Dd σ H := h H (Same.refl H) _ fun vs H1 s1 da =>
  ⟨c, rows, ok, hr, hl, by rw [List.append_nil]; exact da, fun f v H' g s dv => k f v H' g (s1.trans s) dv⟩
theorem q_nils {G : Gs} {σ : L2.St} {H : Hp} {z : TS} {Dd : Ends} {i : Nat} {te : TE} {n : Nat} (h : ∀ Q : VK, (∀ l as H2, H l = none → Same H H2 → OL G H H2 l as (List.replicate n []) → Q (.ref l) H2) → te σ H Q)
    (k : ∀ l as H2, H l = none → Same H H2 → OL G H H2 l as (List.replicate n []) → z Dd (σ.set i (some (.ref l))) H2) : tSeq (tAsg te (gName i)) z Dd σ H := h _ k
/-- what stands behind i turns -/
def LInv (G : Gs) (Hf : Hp) (x v1 v2 : V) (l : Addr) (as : List Addr) (c : Ch) (rows : List D) (m : Nat) (i : Nat) (σ' : L2.St) (H' : Hp) : Prop :=
  ∃ w4 w5, σ' = [some x, some v1, some v2, some (.ref l), w4, w5] ∧ Same Hf H' ∧ OL G Hf H' l as (pad c rows m i)
/-- found[index].append(value) -/
theorem app_at {G : Gs} {σ : L2.St} {H Hf : Hp} {Dd : Ends} {l : Addr} {as : List Addr} {gs : List (List D)} {te : TE} {v : V} {d : D} {j i3 i4 : Nat} {g : List D} (h3 : σ[i3]? = some (some (.ref l))) (h4 : σ[i4]? = some (some v)) (o : OL G Hf H l as gs) (im : ∀ g ∈ gs, immAll g = true)
    (he : Ed G te σ H (.int (j : Int))) (hg : gs[j]? = some g) (hz : g.length < 100000) (dv : DAt G H v d) (id : imm d = true) (s : Same Hf H) (k : ∀ H', Same Hf H' → Le H H' → OL G Hf H' l as (gs.set j (g ++ [d])) → Dd.nx σ H') :
    tDrop (tBM G.K "list" rAppend (tOp (rIxU G) (tVar i3) te) (tCons (tVar i4) tNil)) Dd σ H := by
  have hj : j < as.length := by rw [o.len]; exact (List.getElem?_eq_some_iff.mp hg).1
  have ha : as[j]? = some as[j] := List.getElem?_eq_getElem hj
  refine ⟨.ref l, h3, he H (Same.refl H) _ fun y H1 s1 dy => ?_⟩
  cases dy
  have o1 := o.mn s1
  obtain ⟨us, hu, du⟩ := o1.get j _ g ha hg
  refine .inl (.inl ⟨l, as.map V.ref, (j : Int), .ref as[j], rfl, rfl, .inl (.inl o1.at_), atI_nat (by rw [List.getElem?_map, ha]; rfl), ?_⟩)
  refine ⟨.inl ⟨rfl, us, .inl (.inl hu)⟩, v, h4, as[j], us, v, rfl, rfl, hu, Evl.sz_lt (by rw [du.length]; exact hz), ?_⟩
  obtain ⟨o2, le⟩ := o1.app im ha hg hu du (dv.mn s1) id
  exact k _ ((s.trans s1).mut (o.free _ (List.mem_of_getElem? ha))) ((Le.of s1).trans le) o2
theorem p_listed (hm : m_listed ds r) (h : DAll (gs X C) H vs ds) : SRet (gs X C) (t_listed X C CC aS aT (spD (gs X C) m_reached) (spG (gs X C))) (start N_listed vs) H r := by
  obtain ⟨c, rows, ok, hr, hl, rfl, rfl⟩ := hm
  obtain ⟨x, rfl, h_chain⟩ := one_of h
  have wfr := hr.wf ok
  have kr := kyd_all wfr
  intro Dd H0 s0 q
  have h_chain := h_chain.mn s0
  refine q_set (G := gs X C) (ed_call (dom := m_reached) (eda_cons (ed_var rfl h_chain) eda_nil) ⟨c, rows, ok, hr, hl, rfl, rfl⟩) fun v1 H1 s1 d1 => ?_
  refine q_callG (G := gs X C) (eda_cons (ed_var rfl (h_chain.mn s1)) (eda_cons (ed_var rfl d1) eda_nil)) ok hr hl fun f v2 H2 good s2 d2 => ?_
  have d1 := d1.mn s2
  have d2' := d2
  rw [nd_form] at d2'
  have hlen : (uniq (rows.map fun s => (f s : Int))).length ≤ 60 := by
    have := uniq_len (rows.map fun s => (f s : Int))
    rw [List.length_map] at this
    omega
  refine q_nils (G := gs X C) (n := (uniq (rows.map fun s => (f s : Int))).length) (lc_nils (edi_vals (by rw [List.length_map]; omega) (ed_var rfl d2') (by show 5 < 6; decide)) (by omega) H2 (Same.refl H2)) fun l as H3 nl s3 ol => ?_
  rw [cnt_int] at ol hlen
  obtain ⟨a1, us1, rfl, hq1, dq1⟩ : ∃ a us, v1 = .ref a ∧ SqL (gs X C).K H2 a us ∧ DAll (gs X C) H2 us rows := by
    cases d1 with
    | lst h1 h2 => exact ⟨_, _, rfl, h1, h2⟩
  show tSeq (tFor _ _ _) _ Dd [some x, some (.ref a1), some v2, some (.ref l), none, none] H3
  refine ⟨.ref a1, rfl, a1, rfl, ⟨us1, s3.ls hq1⟩, for_LS (G := gs X C) (us := us1) (ds := rows) (LInv (gs X C) H2 x (.ref a1) v2 l as c rows (KM.cnt rows f)) ⟨none, none, rfl, s3, ?_⟩ (fun i σ H' p => ?_) (fun i w s σ' H' hw hs dw p => ?_) (fun σ' H' p => ?_)⟩
  · unfold pad clsC
    rw [List.take_zero]
    exact ol
  · obtain ⟨_, _, _, s, _⟩ := p
    exact ⟨s.ls hq1, dq1.mn s⟩
  · obtain ⟨w4, w5, rfl, s', ol⟩ := p
    have hms := List.mem_of_getElem? hs
    have hi : i < rows.length := (List.getElem?_eq_some_iff.mp hs).1
    obtain ⟨g, hg, hp⟩ := pad_step good hs
    have memp := pad_mem (m := KM.cnt rows f) good (Nat.le_of_lt hi)
    have imp : ∀ g ∈ pad c rows (KM.cnt rows f) i, immAll g = true := fun g hg => immAll_iff.mpr fun x hx => imm_kyd (wfS_kyd (wfr x (memp g hg x hx)))
    have gl : g.length < 100000 := by
      have I := cls_inv (T := TwC c) good.tw good.ord i (Nat.le_of_lt hi)
      have I1 := cls_inv (T := TwC c) good.tw good.ord i (Nat.le_of_lt hi)
      exact grp_len good (Nat.le_of_lt hi) hl (List.mem_of_getElem? hg)
    show tDrop _ _ [some x, some (.ref a1), some v2, some (.ref l), some w, w5] H'
    refine app_at (G := gs X C) (σ := [some x, some (.ref a1), some v2, some (.ref l), some w, w5]) rfl rfl ol imp (ed_op (ed_var rfl (d2.mn s')) (ed_var rfl dw) (rd_nd (wfr s hms) kr hms)) hg gl dw (imm_kyd (wfS_kyd (wfr s hms))) s' fun H5 s5 le5 ol5 => ?_
    exact ⟨some w, w5, rfl, s5, by rw [hp]; exact ol5⟩
  · obtain ⟨w4, w5, rfl, s', ol⟩ := p
    rw [pad_end good] at ol
    exact sr_ret (G := gs X C) (ed_var (σ := [some x, some (.ref a1), some v2, some (.ref l), w4, w5]) rfl ol.at) Dd H' (Same.refl H') fun v H5 s5 dv => q v H5 (s1.trans (s2.trans (s'.trans s5))) dv
end
end K3

set_option Elab.async false
set_option linter.all false
set_option maxRecDepth 100000
set_option maxHeartbeats 1000000
/-! Histories and pairs: what the program answers. -/
namespace K3
open PySem PySem.Spec PyProof.Rows L2 He KM
def dHi (h : List Ev) : D := .tup (h.map dEv)
def m_does_part (ds : List D) (r : D) : Prop := ∃ c d e hist, OkC c ∧ WfS c d ∧ WfS c e ∧ (∀ x ∈ hist, x ∈ evsOf c) ∧ ds = [dCh c, d, e, dHi hist] ∧ r = .bl (spk (step c) false d e hist)
def m_states (ds : List D) (r : D) : Prop := m_reached ds r
theorem an_eq {a b : Option Bool} : dAn a = dAn b ↔ a = b := by
  cases a <;> cases b <;> simp [dAn]
theorem cmp_an (a b : Option Bool) : CmpOk (dAn a) (dAn b) := .inr (by cases a <;> cases b <;> exact ⟨rfl, rfl⟩)
theorem spk_drop {c : Ch} {hist : List Ev} {i : Nat} {e : Ev} {p : Bool} {s t : D} (h : hist[i]? = some e) : spk (step c) p s t (hist.drop i) = if p = true then false else spk (step c) (decide ((step c s e).1 ≠ (step c t e).1)) (step c s e).2 (step c t e).2 (hist.drop (i + 1)) := by
  obtain ⟨h1, h2⟩ := List.getElem?_eq_some_iff.mp h
  rw [List.drop_eq_getElem_cons h1, h2]; rfl
section
variable {X : Cx} {C CC aS aT : Addr} {H : Hp} {vs : List V} {ds : List D} {r : D}
theorem q_asg2 {G : Gs} {σ : L2.St} {H : Hp} {te : TE} {z : TS} {Dd : Ends} {i j : Nat} {d e : D} (h : Ed G te σ H (.tup [d, e])) (k : ∀ v w H1, Same H H1 → DAt G H1 v d → DAt G H1 w e → z Dd ((σ.set i (some v)).set j (some w)) H1) :
    tSeq (tAsg te (gTup G.K 2 (gCons (gName i) (gCons (gName j) gNil)))) z Dd σ H := h H (Same.refl H) _ fun x H2 s2 dx => by
  cases dx with
  | tup h1 h2 =>
    obtain ⟨v, w, rfl, dv, dw⟩ := two_of h2
    exact ⟨_, _, rfl, h1, rfl, v, _, rfl, w, _, rfl, rfl, k v w H2 s2 dv dw⟩
theorem p_does_part (hm : m_does_part ds r) (h : DAll (gs X C) H vs ds) : SRet (gs X C) (t_does_part X C CC aS aT (spD (gs X C) m_after_event)) (start N_does_part vs) H r := by
  obtain ⟨c, d, e, hist, ok, wd, we, he, rfl, rfl⟩ := hm
  obtain ⟨x, v1, v2, vh, rfl, h_chain, h_one, h_other, h_hist⟩ := four_of h
  intro Dd H0 s0 q
  have h_chain := h_chain.mn s0
  refine q_set (G := gs X C) ed_bl fun v4 H1 s1 d4 => ?_
  cases d4
  have h_hist := (h_hist.mn s0).mn s1
  unfold dHi at h_hist
  obtain ⟨a, us, rfl, t1, t2⟩ : ∃ a us, vh = .ref a ∧ SqT (gs X C).K H1 a us ∧ DAll (gs X C) H1 us (hist.map dEv) := by
    cases h_hist with
    | tup h1 h2 => exact ⟨_, _, rfl, h1, h2⟩
  refine ⟨.ref a, rfl, a, rfl, ⟨us, t1⟩, for_tup (xs := us) (fun i σ' H' => Same H1 H' ∧ ∃ u1 u2 p w5 w6 w7 s t, σ' = [some x, some u1, some u2, some (.ref a), some (.bl p), w5, w6, w7] ∧ DAt (gs X C) H' u1 s ∧ DAt (gs X C) H' u2 t ∧ WfS c s ∧ WfS c t ∧
    spk (step c) false d e hist = spk (step c) p s t (hist.drop i)) ⟨Same.refl H1, v1, v2, false, none, none, none, d, e, rfl, (h_one.mn s0).mn s1, (h_other.mn s0).mn s1, wd, we, rfl⟩ (fun i σ' H' _ p => p.1.tp t1) (fun i w σ' H' hw p => ?_) (fun σ' H' p => ?_)⟩
  · obtain ⟨s', u1, u2, p, w5, w6, w7, s, t, rfl, du1, du2, ws, wt, eS⟩ := p
    obtain ⟨de, hde, dw⟩ := t2.getV hw
    rw [List.getElem?_map] at hde
    obtain ⟨ev, hev, rfl⟩ := Option.map_eq_some_iff.mp hde
    have hin := he ev (List.mem_of_getElem? hev)
    have eS2 := spk_drop (c := c) (p := p) (s := s) (t := t) hev
    have hc := (h_chain.mn s1).mn s'
    have dw := dw.mn s'
    show tSeq _ _ _ [some x, some u1, some u2, some (.ref a), some (.bl p), some w, w6, w7] H'
    refine q_asg2 (G := gs X C) (ed_call (dom := m_after_event) (eda_cons (ed_var rfl hc) (eda_cons (ed_var rfl du1) (eda_cons (ed_var rfl dw) eda_nil))) ⟨c, s, ev, ok, ws, hin, rfl, rfl⟩) fun v6 n1 H2 s2 d6 dn1 => ?_
    refine q_asg2 (G := gs X C) (ed_call (dom := m_after_event) (eda_cons (ed_var rfl (hc.mn s2)) (eda_cons (ed_var rfl (du2.mn s2)) (eda_cons (ed_var rfl (dw.mn s2)) eda_nil))) ⟨c, t, ev, ok, wt, hin, rfl, rfl⟩) fun v7 n2 H3 s3 d7 dn2 => ?_
    have s03 : Same H1 H3 := s'.trans (s2.trans s3)
    show tSeq _ _ _ [some x, some n1, some n2, some (.ref a), some (.bl p), some w, some v6, some v7] H3
    refine Evl.q_when (b := p) (et_B (G := gs X C) (ed_var rfl (.bl p))) (fun hb H4 s4 => ?_) (fun hb H4 s4 => ?_)
    · refine (sr_ret (G := gs X C) (ed_bl (σ := [some x, some n1, some n2, some (.ref a), some (.bl p), some w, some v6, some v7]))) _ H4 (Same.refl H4) fun v H5 s5 dv => q v H5 (s1.trans (s03.trans (Same.trans s4 s5))) ?_
      rw [eS, eS2, if_pos hb]; exact dv
    · rw [if_neg (by rw [hb]; decide)] at eS2
      refine s_set (G := gs X C) (d := .bl (decide ((step c s ev).1 ≠ (step c t ev).1))) (Ed.is (ed_op (ed_var rfl ((d6.mn s3).mn s4)) (ed_var rfl (d7.mn s4)) (rd_ne (cmp_an _ _))) ?_) fun v4 H5 s5 d4 => ?_
      · congr 1
        by_cases hq : (step c s ev).1 = (step c t ev).1
        · rw [decide_eq_true (an_eq.mpr hq), decide_eq_false (fun z => z hq)]; rfl
        · rw [decide_eq_false (fun z => hq (an_eq.mp z)), decide_eq_true hq]; rfl
      · cases d4
        exact ⟨s03.trans (Same.trans s4 s5), n1, n2, _, _, _, _, _, _, rfl, ((dn1.mn s3).mn s4).mn s5, (dn2.mn s4).mn s5, wf_step ok ws hin, wf_step ok wt hin, by rw [eS, eS2]⟩
  · obtain ⟨s', u1, u2, p, w5, w6, w7, s, t, rfl, du1, du2, ws, wt, eS⟩ := p
    have el : us.length = hist.length := by rw [t2.length, List.length_map]
    rw [el, List.drop_length] at eS
    refine (sr_ret (G := gs X C) (ed_var (σ := [some x, some u1, some u2, some (.ref a), some (.bl p), w5, w6, w7]) rfl (.bl p))) _ H' (Same.refl H') fun v H5 s5 dv => q v H5 (s1.trans (s'.trans s5)) ?_
    rw [eS]; exact dv
theorem q_drop {G : Gs} {σ : L2.St} {H : Hp} {te : TE} {z : TS} {Dd : Ends} {d : D} (h : Ed G te σ H d) (k : ∀ H1, Same H H1 → z Dd σ H1) : tSeq (tDrop te) z Dd σ H := h H (Same.refl H) _ fun v H1 s _ => k H1 s
theorem p_states (hm : m_reached ds r) (h : DAll (gs X C) H vs ds) : SRet (gs X C) (t_states X C CC aS aT (spD (gs X C) m_check) (spD (gs X C) m_reached)) (start N_states vs) H r := by
  obtain ⟨c, rows, ok, hr, hl, rfl, rfl⟩ := hm
  obtain ⟨x, rfl, h_chain⟩ := one_of h
  intro Dd H0 s0 q
  have h_chain := h_chain.mn s0
  refine q_drop (G := gs X C) (ed_call (dom := m_check) (eda_cons (ed_var rfl h_chain) eda_nil) ⟨c, rfl, rfl⟩) fun H1 s1 => ?_
  exact sr_ret (G := gs X C) (ed_call (dom := m_reached) (eda_cons (ed_var rfl (h_chain.mn s1)) eda_nil) ⟨c, rows, ok, hr, hl, rfl, rfl⟩) Dd H1 (Same.refl H1) fun v H2 s2 dv => q v H2 (s1.trans s2) dv
end
/-! ### the pairs of places -/
def rowP (n i : Nat) : List (Nat × Nat) := (List.range (n - (i + 1))).map fun j => (i, i + 1 + j)
def prsTo (n i : Nat) : List (Nat × Nat) := (List.range i).flatMap (rowP n)
def prs (n : Nat) : List (Nat × Nat) := prsTo n n
def dP (p : Nat × Nat) : D := .tup [.int (p.1 : Int), .int (p.2 : Int)]
def m_pairs (ds : List D) (r : D) : Prop := ∃ n : Nat, n ≤ 60 ∧ ds = [.int (n : Int)] ∧ r = .lst ((prs n).map dP)
theorem prsTo_succ (n i : Nat) : prsTo n (i + 1) = prsTo n i ++ rowP n i := by unfold prsTo; rw [List.range_succ, List.flatMap_append]; simp
theorem rowP_len (n i : Nat) : (rowP n i).length ≤ n := by unfold rowP; rw [List.length_map, List.length_range]; omega
theorem prsTo_len (n : Nat) : ∀ i, (prsTo n i).length ≤ i * n
  | 0 => by simp [prsTo]
  | i + 1 => by
    rw [prsTo_succ, List.length_append, Nat.succ_mul]
    have := prsTo_len n i
    have := rowP_len n i
    omega
theorem imm_prs (l : List (Nat × Nat)) : immAll (l.map dP) = true := immAll_iff.mpr fun d hd => by obtain ⟨p, _, rfl⟩ := List.mem_map.mp hd; rfl
theorem ci_push {G : Gs} {H H' : Hp} {l : Addr} {rs : List D} {te : TE} {σ : L2.St} {d : D} {Nx : Hp → Prop} (p : CInv G H l rs H') (hz : rs.length < 100000) (im : immAll rs = true) (id : imm d = true) (he : Ed G te σ H' d) (hn : ∀ H2, CInv G H l (rs ++ [d]) H2 → Nx H2) :
    te σ H' fun y H4 => ∃ acc, H4 l = some (.lst acc) ∧ acc.length < sizeLine ∧ Nx (upd H4 l (.lst (acc ++ [y]))) := by
  obtain ⟨p1, p2, acc, p3, p4⟩ := p
  refine he H' (Same.refl H') _ fun y H4 s4 dy => ⟨acc, s4 l _ p3, Evl.sz_lt (by rw [p4.length]; exact hz), ?_⟩
  have e4 : H4 l = some (.lst acc) := s4 l _ p3
  have le : Le H4 (upd H4 l (.lst (acc ++ [y]))) := .wr fun u e f => by rw [e4] at e; cases e; exact f
  exact hn _ ⟨p1, (p2.trans s4).mut p1, _, upd_same, ((p4.mn s4).snoc dy).lm (by rw [immAll_append, im]; rw [immAll, id]; rfl) le⟩
section
variable {X : Cx} {C CC aS aT : Addr} {H : Hp} {vs : List V} {ds : List D} {r : D}
theorem p_pairs (hm : m_pairs ds r) (h : DAll (gs X C) H vs ds) : SRet (gs X C) (t_pairs_of X C CC aS aT) (start N_pairs_of vs) H r := by
  obtain ⟨n, hn, rfl, rfl⟩ := hm
  obtain ⟨x, rfl, h_many⟩ := one_of h
  cases h_many
  intro Dd H0 s0 q
  refine ⟨.int (n : Int), rfl, (n : Int), rfl, by omega, by omega, fun l hl => ?_⟩
  have e0 : ((n : Int)).toNat = n := Int.toNat_natCast n
  rw [e0]
  have bound : ∀ i ≤ n, (prsTo n i).length ≤ 3600 := fun i hi => by
    have h1 := prsTo_len n i
    have h2 : i * n ≤ 60 * 60 := Nat.mul_le_mul (by omega) hn
    omega
  refine ⟨fun i m H' => m = n - i ∧ i ≤ n ∧ CInv (gs X C) H0 l ((prsTo n i).map dP) H', ⟨n, by simp, Nat.zero_le _, hl, .new hl, [], upd_same, .nil⟩, ?_⟩
  rintro i m H' ⟨rfl, hi, ci⟩
  by_cases hlt : i < n
  · refine .inr ⟨hlt, fun H'' => CInv (gs X C) H0 l ((prsTo n (i + 1)).map dP) H'', fun H'' z => ⟨_, by omega, rfl, hlt, z⟩, fun x H'' y => ?_⟩
    obtain ⟨rfl, rfl⟩ := y
    have e1 : (0 : Int) + (i : Int) = (i : Int) := Int.zero_add _
    rw [e1]
    refine ⟨rfl, ?_⟩
    unfold tYes
    refine iteT ⟨.int (i : Int), rfl, ?_⟩
    refine .inl (.inl ⟨(i : Int), 1, rfl, rfl, .int (n : Int), rfl, (i : Int) + 1, (n : Int), rfl, ⟨by omega, by omega, by omega, by omega⟩, ?_⟩)
    have e2 : ((n : Int) - ((i : Int) + 1)).toNat = n - (i + 1) := by omega
    rw [e2]
    refine ⟨fun j k H3 => k = (n - (i + 1)) - j ∧ j ≤ n - (i + 1) ∧ CInv (gs X C) H0 l ((prsTo n i ++ (rowP n i).take j).map dP) H3, ⟨n - (i + 1), by simp, Nat.zero_le _, by rw [List.take_zero, List.append_nil]; exact ci⟩, ?_⟩
    rintro j k H3 ⟨rfl, hj, cj⟩
    by_cases hlj : j < n - (i + 1)
    · refine .inr ⟨hlj, fun H4 => CInv (gs X C) H0 l ((prsTo n i ++ (rowP n i).take (j + 1)).map dP) H4, fun H4 z => ⟨_, by omega, rfl, hlj, z⟩, fun x H4 y => ?_⟩
      obtain ⟨rfl, rfl⟩ := y
      refine ⟨rfl, ?_⟩
      refine iteT ?_
      have hb := bound i hi
      have hr := rowP_len n i
      have er : (rowP n i)[j]? = some (i, i + 1 + j) := by unfold rowP; rw [List.getElem?_map, List.getElem?_range hlj]; rfl
      refine ci_push (G := gs X C) (d := dP (i, i + 1 + j)) (te := tTup (tCons (tVar 1) (tCons (tVar 2) tNil))) (σ := [some (.int (n : Int)), some (.int (i : Int)), some (.int ((i : Int) + 1 + (j : Int)))]) cj (by rw [List.length_map, List.length_append, List.length_take]; omega) (imm_prs _) rfl (Ed.is (ed_tup (eda_cons (ed_var rfl (.int _)) (eda_cons (ed_var rfl (.int _)) eda_nil)) (by show 2 ≤ 100000; decide)) ?_) fun H5 c5 => ?_
      · unfold dP
        have : ((i : Int) + 1 + (j : Int)) = ((i + 1 + j : Nat) : Int) := by omega
        rw [this]
      · rw [take_snoc er, ← List.append_assoc, List.map_append]
        exact c5
    · have e : j = n - (i + 1) := by omega
      subst e
      have el : (rowP n i).take (n - (i + 1)) = rowP n i := by rw [List.take_of_length_le]; unfold rowP; rw [List.length_map, List.length_range]; exact Nat.le_refl _
      rw [el] at cj
      refine .inl ⟨Nat.le_refl _, ?_⟩
      rw [prsTo_succ]
      exact cj
  · have e : i = n := by omega
    subst e
    obtain ⟨p1, p2, acc, p3, p4⟩ := ci
    exact .inl ⟨Nat.le_refl _, q _ H' p2 (.lst (.inl (.inl p3)) p4)⟩
end
end K3

set_option Elab.async false
set_option linter.all false
set_option maxRecDepth 100000
set_option maxHeartbeats 1000000
/-! The first parting history: what the program answers. -/
namespace K3
open PySem PySem.Spec PyProof.Rows L2 He KM
abbrev Me : Type := (D × D) × List Ev
def dPr (p : D × D) : D := .tup [p.1, p.2]
def ksM (m : List Me) : List D := m.map fun x => dPr x.1
def hsM (m : List Me) : List D := m.map fun x => dHi x.2
def dRes : Option (List Ev) → D
  | none => .non
  | some h => dHi h
def AptC (c : Ch) (n : Nat) (m : List Me) (at_ : Nat) (r : Option (List Ev)) : Prop := Apt (evsOf c) (step c) n m at_ r
def m_parting (ds : List D) (r : D) : Prop := ∃ c rows d e n res, OkC c ∧ Rch c rows ∧ rows.length ≤ 60 ∧ d ∈ rows ∧ e ∈ rows ∧ AptC c n [((d, e), [])] 0 res ∧ ds = [dCh c, d, e] ∧ r = dRes res
/-- what the search has met -/
structure MOk (c : Ch) (rows : List D) (m : List Me) : Prop where
  nd : (m.map (·.1)).Nodup
  a : ∀ x ∈ m, x.1.1 ∈ rows
  b : ∀ x ∈ m, x.1.2 ∈ rows
  ev : ∀ x ∈ m, ∀ e ∈ x.2, e ∈ evsOf c
  len : ∀ x ∈ m, x.2.length < m.length
theorem MOk.size {c : Ch} {rows : List D} {m : List Me} (o : MOk c rows m) (hl : rows.length ≤ 60) : m.length ≤ 3600 := by
  have h := nodup_sub_len (L := rows.flatMap fun a => rows.map fun b => (a, b)) o.nd fun p hp => by
    obtain ⟨x, hx, rfl⟩ := List.mem_map.mp hp
    exact List.mem_flatMap.mpr ⟨x.1.1, o.a x hx, List.mem_map.mpr ⟨x.1.2, o.b x hx, rfl⟩⟩
  rw [List.length_map] at h
  have e : (rows.flatMap fun a => rows.map fun b => (a, b)).length = rows.length * rows.length := by
    have : ∀ l : List D, (l.flatMap fun a => rows.map fun b => (a, b)).length = l.length * rows.length := fun l => by
      induction l with
      | nil => simp
      | cons x l ih => rw [List.flatMap_cons, List.length_append, List.length_map, ih, List.length_cons, Nat.succ_mul]; omega
    exact this rows
  have := Nat.mul_le_mul hl hl
  omega
theorem MOk.add {c : Ch} {rows : List D} {m : List Me} {p : D × D} {h : List Ev} {e : Ev} {q : D × D} (o : MOk c rows m) (hm : (p, h) ∈ m) (he : e ∈ evsOf c) (qa : q.1 ∈ rows) (qb : q.2 ∈ rows) (hn : q ∉ m.map (·.1)) : MOk c rows (m ++ [(q, h ++ [e])]) := by
  refine ⟨by rw [List.map_append]; exact nodup_snoc o.nd hn, fun x hx => ?_, fun x hx => ?_, fun x hx => ?_, fun x hx => ?_⟩
  · rcases List.mem_append.mp hx with z | z
    · exact o.a x z
    · rw [List.mem_singleton.mp z]; exact qa
  · rcases List.mem_append.mp hx with z | z
    · exact o.b x z
    · rw [List.mem_singleton.mp z]; exact qb
  · rcases List.mem_append.mp hx with z | z
    · exact o.ev x z
    · rw [List.mem_singleton.mp z]
      intro f hf
      rcases List.mem_append.mp hf with y | y
      · exact o.ev _ hm f y
      · rw [List.mem_singleton.mp y]; exact he
  · rw [List.length_append, List.length_singleton]
    rcases List.mem_append.mp hx with z | z
    · have := o.len x z; omega
    · rw [List.mem_singleton.mp z, List.length_append, List.length_singleton]
      have := o.len _ hm
      have : h.length < m.length := this
      omega
theorem dPr_inj {p q : D × D} (h : dPr p = dPr q) : p = q := by
  unfold dPr at h
  injection h with h
  injection h with h1 h2
  injection h2 with h2 _
  exact Prod.ext h1 h2
theorem kyd_pr {c : Ch} {p : D × D} (h1 : WfS c p.1) (h2 : WfS c p.2) : kyd 4 (dPr p) = true := by
  rw [dPr, kyd, kydAll, kydAll, kydAll, wfS_kyd h1, wfS_kyd h2]; rfl
theorem mem_ksM {m : List Me} {p : D × D} : dPr p ∈ ksM m ↔ p ∈ m.map (·.1) := by
  unfold ksM
  rw [List.mem_map, List.mem_map]
  constructor
  · rintro ⟨x, hx, e⟩; exact ⟨x, hx, dPr_inj e⟩
  · rintro ⟨x, hx, e⟩; exact ⟨x, hx, by rw [e]⟩
section
variable {c : Ch} {rows : List D} {m : List Me}
theorem MOk.kyd (o : MOk c rows m) (wfr : ∀ s ∈ rows, WfS c s) : kydAll 4 (ksM m) = true := kydAll_iff.mpr fun d hd => by
  obtain ⟨x, hx, rfl⟩ := List.mem_map.mp hd
  exact kyd_pr (wfr _ (o.a x hx)) (wfr _ (o.b x hx))
theorem imm_hi (h : List Ev) : imm (dHi h) = true := by rw [dHi, imm]; exact immAll_evl h
  where immAll_evl (h : List Ev) : immAll (h.map dEv) = true := immAll_iff.mpr fun d hd => by obtain ⟨e, _, rfl⟩ := List.mem_map.mp hd; exact (kyd_facts _ 1 (kyd_ev e)).1
theorem imm_hsM (m : List Me) : immAll (hsM m) = true := immAll_iff.mpr fun d hd => by obtain ⟨x, _, rfl⟩ := List.mem_map.mp hd; exact imm_hi _
theorem dget_ent (nd : (m.map (·.1)).Nodup) (hk : kydAll 4 (ksM m) = true) {p : D × D} {h : List Ev} (hm : (p, h) ∈ m) : dget (ksM m) (hsM m) (dPr p) = some (dHi h) := by
  obtain ⟨i, hi, e⟩ := List.mem_iff_getElem.mp hm
  have hin : dPr p ∈ ksM m := mem_ksM.mpr (List.mem_map.mpr ⟨_, hm, rfl⟩)
  unfold dget
  rw [kix_idx (kyd_mem hk hin) hk, if_pos hin]
  show (hsM m)[(ksM m).idxOf (dPr p)]? = _
  have hlt := List.idxOf_lt_length_iff.mpr hin
  have e1 := List.getElem_idxOf hlt
  have e2 : (ksM m).idxOf (dPr p) = i := by
    generalize (ksM m).idxOf (dPr p) = k at hlt e1
    have hlt' : k < m.length := by unfold ksM at hlt; rw [List.length_map] at hlt; exact hlt
    have e3 : dPr (m[k]'hlt').1 = dPr p := by
      have e1' : (m.map fun x => dPr x.1)[k]? = some (dPr p) := by
        have := List.getElem?_eq_getElem hlt
        rw [e1] at this; exact this
      rw [List.getElem?_map, List.getElem?_eq_getElem hlt'] at e1'
      exact Option.some.inj e1'
    have e4 := dPr_inj e3
    have e5 : (m.map (·.1))[k]'(by rw [List.length_map]; exact hlt') = (m.map (·.1))[i]'(by rw [List.length_map]; exact hi) := by
      rw [List.getElem_map, List.getElem_map, e4, e]
    exact (List.getElem_inj nd).mp e5
  rw [e2]
  unfold hsM
  rw [List.getElem?_map, List.getElem?_eq_getElem hi, e]; rfl
theorem Apt.inv {n at_ : Nat} {r : Option (List Ev)} {p : D × D} {h : List Ev} (A : AptC c n m at_ r) (hm : m[at_]? = some (p, h)) :
    (∃ q, scan (step c) p h (evsOf c) m = .inl q ∧ r = some q) ∨ ∃ n' m', n = n' + 1 ∧ scan (step c) p h (evsOf c) m = .inr m' ∧ AptC c n' m' (at_ + 1) r := by
  cases A with
  | done h' => rw [List.getElem?_eq_none h'] at hm; cases hm
  | found h1 h2 => rw [hm] at h1; cases h1; exact .inl ⟨_, h2, rfl⟩
  | next h1 h2 h3 => rw [hm] at h1; cases h1; exact .inr ⟨_, _, rfl, h2, h3⟩
theorem Apt.end_ {n at_ : Nat} {r : Option (List Ev)} (A : AptC c n m at_ r) (hm : m.length ≤ at_) : r = none := by
  cases A with
  | done h' => rfl
  | found h1 h2 => rw [List.getElem?_eq_none hm] at h1; cases h1
  | next h1 h2 h3 => rw [List.getElem?_eq_none hm] at h1; cases h1
theorem scan_drop {p : D × D} {h : List Ev} {j : Nat} {e : Ev} (he : (evsOf c)[j]? = some e) : scan (step c) p h ((evsOf c).drop j) m = if (step c p.1 e).1 ≠ (step c p.2 e).1 then .inl (h ++ [e]) else scan (step c) p h ((evsOf c).drop (j + 1)) (if ((step c p.1 e).2, (step c p.2 e).2) ∈ m.map (·.1) then m else m ++ [(((step c p.1 e).2, (step c p.2 e).2), h ++ [e])]) := by
  obtain ⟨h1, h2⟩ := List.getElem?_eq_some_iff.mp he
  rw [List.drop_eq_getElem_cons h1, h2]; rfl
end
end K3

set_option Elab.async false
set_option linter.all false
set_option maxRecDepth 100000
set_option maxHeartbeats 1000000
/-! The first parting history: what the program answers. -/
namespace K3
open PySem PySem.Spec PyProof.Rows L2 He KM
section
variable {X : Cx} {C CC aS aT : Addr} {H : Hp} {vs : List V} {ds : List D} {r : D}
/-- i turns over the layer -/
def PInv (G : Gs) (H0 : Hp) (x y z : V) (pd ly fd : Addr) (us : List V) (c : Ch) (rows : List D) (P L : List Me) (n0 : Nat) (res : Option (List Ev)) (i : Nat) (σ' : L2.St) (H' : Hp) : Prop :=
  ∃ w6 w7 w8 w9 w10 w11 F n, σ' = [some x, some y, some z, some (.ref pd), some (.ref ly), some (.ref fd), w6, w7, w8, w9, w10, w11] ∧ Same H0 H' ∧ LS G H' ly us (ksM L) ∧ DD G H' pd (ksM (P ++ L)) (hsM (P ++ L)) ∧ DD G H' fd (ksM F) (hsM F) ∧
    MOk c rows ((P ++ L) ++ F) ∧ n + i = n0 ∧ AptC c n ((P ++ L) ++ F) (P.length + i) res
/-- j turns over the events of one pair -/
def PInv2 (G : Gs) (H0 : Hp) (x y z : V) (pd ly fd ev : Addr) (us es : List V) (w6 : V) (c : Ch) (rows : List D) (P L : List Me) (p : D × D) (h : List Ev) (m0 : List Me) (j : Nat) (σ' : L2.St) (H' : Hp) : Prop :=
  ∃ w7 w8 w9 w10 w11 F, σ' = [some x, some y, some z, some (.ref pd), some (.ref ly), some (.ref fd), some w6, w7, w8, w9, w10, w11] ∧ Same H0 H' ∧ LS G H' ly us (ksM L) ∧ LS G H' ev es ((evsOf c).map dEv) ∧ DAt G H' w6 (dPr p) ∧ DD G H' pd (ksM (P ++ L)) (hsM (P ++ L)) ∧ DD G H' fd (ksM F) (hsM F) ∧
    MOk c rows ((P ++ L) ++ F) ∧ scan (step c) p h ((evsOf c).drop j) ((P ++ L) ++ F) = scan (step c) p h (evsOf c) m0
theorem ksM_app (a b : List Me) : ksM (a ++ b) = ksM a ++ ksM b := List.map_append
theorem hsM_app (a b : List Me) : hsM (a ++ b) = hsM a ++ hsM b := List.map_append
theorem MOk.left {c : Ch} {rows : List D} {a b : List Me} (o : MOk c rows (a ++ b)) (wfr : ∀ s ∈ rows, WfS c s) : kydAll 4 (ksM a) = true ∧ kydAll 4 (ksM b) = true := by
  have := o.kyd wfr
  rw [ksM_app] at this
  exact ⟨kydAll_iff.mpr fun d hd => kydAll_iff.mp this d (List.mem_append_left _ hd), kydAll_iff.mpr fun d hd => kydAll_iff.mp this d (List.mem_append_right _ hd)⟩
theorem dHi_snoc (h : List Ev) (e : Ev) : dHi (h ++ [e]) = .tup ((h.map dEv) ++ [dEv e]) := by unfold dHi; rw [List.map_append]; rfl
/-- the body of the inner loop -/
def tPB (X : Cx) (C : Addr) : TS := tSeq (tAsg (tCall (spD (gs X C) m_after_event) [] C8.E0 (tCons (tVar 0) (tCons (tOp (rIxU (gs X C)) (tVar 6) (tC (.int 0))) (tCons (tVar 7) tNil)))) (gTup X.K 2 (gCons (gName 8) (gCons (gName 9) gNil))))
  (tSeq (tAsg (tCall (spD (gs X C) m_after_event) [] C8.E0 (tCons (tVar 0) (tCons (tOp (rIxU (gs X C)) (tVar 6) (tC (.int 1))) (tCons (tVar 7) tNil)))) (gTup X.K 2 (gCons (gName 10) (gCons (gName 11) gNil))))
  (tSeq (tIfS (tTest (tOp (rNeU (gs X C)) (tVar 8) (tVar 10)))
  (tRet (tTup (StX.tStar X.K (tOp (rIxU (gs X C)) (tVar 3) (tVar 6)) (tCons (tVar 7) tNil))))
  tNext)
  (tIfS (tAnd (tTest (tOp (rNiU (gs X C)) (tTup (tCons (tVar 9) (tCons (tVar 11) tNil))) (tVar 3))) (tTest (tOp (rNiU (gs X C)) (tTup (tCons (tVar 9) (tCons (tVar 11) tNil))) (tVar 5))))
  (tAsg (tTup (StX.tStar X.K (tOp (rIxU (gs X C)) (tVar 3) (tVar 6)) (tCons (tVar 7) tNil))) (gSub (tVar 5) (tTup (tCons (tVar 9) (tCons (tVar 11) tNil))) (rDSet X C)))
  tNext)))
theorem parting_turn {c : Ch} {rows : List D} {P L : List Me} {H0 H' : Hp} {x y z : V} {pd ly fd ev : Addr} {us es : List V} {w6 we : V} {w8 w9 w10 w11 : Option V} {Dd : Ends} {p : D × D} {h : List Ev} {m0 F : List Me} {j : Nat} {e : Ev} {q0 : List Ev → Prop}
    (ok : OkC c) (hr : Rch c rows) (hl : rows.length ≤ 60) (hx : DAt (gs X C) H0 x (dCh c)) (npd : H0 pd = none) (nfd : H0 fd = none) (npf : pd ≠ fd) (hm : (p, h) ∈ P ++ L) (he : (evsOf c)[j]? = some e) (dwe : DAt (gs X C) H' we (dEv e))
    (s' : Same H0 H') (hL : LS (gs X C) H' ly us (ksM L)) (hE : LS (gs X C) H' ev es ((evsOf c).map dEv)) (d6 : DAt (gs X C) H' w6 (dPr p)) (dP : DD (gs X C) H' pd (ksM (P ++ L)) (hsM (P ++ L))) (dF : DD (gs X C) H' fd (ksM F) (hsM F)) (mo : MOk c rows ((P ++ L) ++ F))
    (hsc : scan (step c) p h ((evsOf c).drop j) ((P ++ L) ++ F) = scan (step c) p h (evsOf c) m0)
    (ret : ∀ q v H2, scan (step c) p h (evsOf c) m0 = .inl q → Same H0 H2 → DAt (gs X C) H2 v (dHi q) → Dd.rt v H2)
    (nx : ∀ σ2 H2, PInv2 (gs X C) H0 x y z pd ly fd ev us es w6 c rows P L p h m0 (j + 1) σ2 H2 → Dd.nx σ2 H2) :
    tPB X C Dd [some x, some y, some z, some (.ref pd), some (.ref ly), some (.ref fd), some w6, some we, w8, w9, w10, w11] H' := by
  have wfr := hr.wf ok
  have hin := List.mem_of_getElem? he
  have hmA : (p, h) ∈ (P ++ L) ++ F := List.mem_append_left _ hm
  have w1 : WfS c p.1 := wfr _ (mo.a _ hmA)
  have w2 : WfS c p.2 := wfr _ (mo.b _ hmA)
  have hsz := mo.size hl
  obtain ⟨kPL, kF⟩ := mo.left wfr
  have hlen : h.length ≤ 3600 := by
    have := mo.len _ hmA
    have : h.length < ((P ++ L) ++ F).length := this
    omega
  have esc := scan_drop (c := c) (m := (P ++ L) ++ F) (p := p) (h := h) he
  have nd1 : ((P ++ L).map (·.1)).Nodup := by
    have := mo.nd
    rw [List.map_append] at this
    exact (List.nodup_append.mp this).1
  have hist : ∀ (a b c' d' : Option V) H2, Same H' H2 → Ed (gs X C) (tTup (StX.tStar X.K (tOp (rIxU (gs X C)) (tVar 3) (tVar 6)) (tCons (tVar 7) tNil))) [some x, some y, some z, some (.ref pd), some (.ref ly), some (.ref fd), some w6, some we, a, b, c', d'] H2 (dHi (h ++ [e])) := fun a b c' d' H2 s2 => by
    rw [dHi_snoc]
    exact ed_tup (eda_starT (G := gs X C) (ed_op (ed_var rfl (dP.mn s2).at) (ed_var rfl (d6.mn s2)) (rd_ixD (n := 4) (by decide) (kyd_pr w1 w2) (dget_ent nd1 kPL hm))) (eda_cons (ed_var rfl (dwe.mn s2)) eda_nil)) (by simp; omega)
  refine q_asg2 (G := gs X C) (ed_call (dom := m_after_event) (eda_cons (ed_var rfl (hx.mn s')) (eda_cons (ed_op (ed_var rfl d6) ed_int (rd_ixT rfl)) (eda_cons (ed_var rfl dwe) eda_nil))) ⟨c, p.1, e, ok, w1, hin, rfl, rfl⟩) fun v8 v9 H2 s2 d8 d9 => ?_
  refine q_asg2 (G := gs X C) (ed_call (dom := m_after_event) (eda_cons (ed_var rfl ((hx.mn s').mn s2)) (eda_cons (ed_op (ed_var rfl (d6.mn s2)) ed_int (rd_ixT rfl)) (eda_cons (ed_var rfl (dwe.mn s2)) eda_nil))) ⟨c, p.2, e, ok, w2, hin, rfl, rfl⟩) fun v10 v11 H3 s3 d10 d11 => ?_
  have s23 : Same H' H3 := s2.trans s3
  show tSeq _ _ _ [some x, some y, some z, some (.ref pd), some (.ref ly), some (.ref fd), some w6, some we, some v8, some v9, some v10, some v11] H3
  refine Evl.q_when (b := decide ((step c p.1 e).1 ≠ (step c p.2 e).1)) (Evl.et_is (et_test (ed_op (G := gs X C) (ed_var rfl (d8.mn s3)) (ed_var rfl d10) (rd_ne (cmp_an _ _)))) ?_) (fun hb H4 s4 => ?_) (fun hb H4 s4 => ?_)
  · by_cases hq : (step c p.1 e).1 = (step c p.2 e).1
    · rw [decide_eq_true (an_eq.mpr hq), decide_eq_false (fun z => z hq)]; rfl
    · rw [decide_eq_false (fun z => hq (an_eq.mp z)), decide_eq_true hq]; rfl
  · have hb := of_decide_eq_true hb
    rw [if_pos hb] at esc
    refine (sr_ret (G := gs X C) (hist _ _ _ _ H4 (Same.trans s23 s4))) _ H4 (Same.refl H4) fun v H5 s5 dv => ret _ v H5 (hsc.symm.trans esc) (s'.trans (s23.trans (Same.trans s4 s5))) dv
  · have hb := of_decide_eq_false hb
    rw [if_neg hb] at esc
    have s24 : Same H' H4 := Same.trans s23 s4
    have d9' := (d9.mn s3).mn s4
    have d11' := d11.mn s4
    generalize hqn : (((step c p.1 e).2, (step c p.2 e).2) : D × D) = qn at esc
    have qa : qn.1 ∈ rows := by rw [← hqn]; exact hr.closed _ (mo.a _ hmA) e hin
    have qb : qn.2 ∈ rows := by rw [← hqn]; exact hr.closed _ (mo.b _ hmA) e hin
    have kq : kyd 4 (dPr qn) = true := kyd_pr (wfr _ qa) (wfr _ qb)
    rw [show (step c p.1 e).2 = qn.1 by rw [← hqn]] at d9'
    rw [show (step c p.2 e).2 = qn.2 by rw [← hqn]] at d11'
    have dP4 := dP.mn s24
    have dF4 := dF.mn s24
    have pairE : ∀ H5, Same H4 H5 → Ed (gs X C) (tTup (tCons (tVar 9) (tCons (tVar 11) tNil))) [some x, some y, some z, some (.ref pd), some (.ref ly), some (.ref fd), some w6, some we, some v8, some v9, some v10, some v11] H5 (dPr qn) := fun H5 s5 =>
      ed_tup (eda_cons (ed_var rfl (d9'.mn s5)) (eda_cons (ed_var rfl (d11'.mn s5)) eda_nil)) (by show 2 ≤ 100000; decide)
    have inn : (decide (dPr qn ∈ ksM (P ++ L)) || decide (dPr qn ∈ ksM F)) = decide (qn ∈ ((P ++ L) ++ F).map (·.1)) := by
      rw [List.map_append]
      rw [← Bool.decide_or]
      exact decB (by rw [mem_ksM, mem_ksM, List.mem_append])
    refine Evl.s_when (b := !decide (qn ∈ ((P ++ L) ++ F).map (·.1))) (Evl.et_is (Evl.et_and (et_test (ed_op (G := gs X C) (pairE H4 (Same.refl H4)) (ed_var rfl dP4.at) (rd_niD (n := 4) (by decide) kq))) fun _ => et_test (ed_op (G := gs X C) (pairE H4 (Same.refl H4)) (ed_var rfl dF4.at) (rd_niD (n := 4) (by decide) kq))) ?_) (fun hn H5 s5 => ?_) (fun hn H5 s5 => ?_)
    · have e1 := kix_mem (ks := ksM (P ++ L)) kq kPL
      have e2 := kix_mem (ks := ksM F) kq kF
      unfold dPr at e1 e2 inn
      rw [e1, e2, ← inn, Bool.not_or]
    · have hn : qn ∉ ((P ++ L) ++ F).map (·.1) := by simpa using hn
      have s25 : Same H' H5 := Same.trans s24 s5
      rw [if_neg hn] at esc
      have hnF : dPr qn ∉ ksM F := fun z => hn (by rw [List.map_append]; exact List.mem_append_right _ (mem_ksM.mp z))
      refine hist _ _ _ _ H5 s25 H5 (Same.refl H5) _ fun vh H6 s6 dvh => ?_
      refine ⟨.ref fd, rfl, ?_⟩
      refine pairE H6 (Same.trans s5 s6) H6 (Same.refl H6) _ fun vp H7 s7 dvp => ?_
      have s27 : Same H' H7 := s25.trans (s6.trans s7)
      have eput := dput_new (vs := hsM F) (v := dHi (h ++ [e])) kq kF hnF
      have eks : ksM F ++ [dPr qn] = ksM (F ++ [(qn, h ++ [e])]) := by rw [ksM_app]; rfl
      have ehs : hsM F ++ [dHi (h ++ [e])] = hsM (F ++ [(qn, h ++ [e])]) := by rw [hsM_app]; rfl
      rw [eks, ehs] at eput
      have mo2 := mo.add hmA hin qa qb hn
      rw [List.append_assoc] at mo2
      have kF2 := (mo2.left wfr).2
      refine rDSet_dd (X := X) (C := C) (k := dPr qn) (d := dHi (h ++ [e])) (dF.mn s27) (isK_of (n := 4) (by decide) kq dvp) (dvh.mn s7) (by
        unfold ksM; rw [List.length_map]
        rw [List.length_append] at hsz; omega) (by rw [eput]; exact immAll_kyd kF2) (by rw [eput]; exact imm_hsM _) fun H8 w8 le8 dF8 => ?_
      rw [eput] at dF8
      obtain ⟨of, hof⟩ := (dF.mn s27).some
      refine nx _ H8 ⟨_, _, _, _, _, F ++ [(qn, h ++ [e])], rfl, w8.same nfd (s'.trans s27), (hL.mn s27).wr hof w8 le8 (immAll_kyd (by
        have := kPL
        rw [ksM_app] at this
        exact kydAll_iff.mpr fun d hd => kydAll_iff.mp this d (List.mem_append_right _ hd))), (hE.mn s27).wr hof w8 le8 (immAll_evs c), (d6.mn s27).lm (imm_kyd (kyd_pr w1 w2)) le8, (dP.mn s27).wr w8 le8 npf (immAll_kyd kPL) (imm_hsM _), dF8, mo2, ?_⟩
      rw [← hsc, esc, ← List.append_assoc]
    · have hn : qn ∈ ((P ++ L) ++ F).map (·.1) := by simpa using hn
      rw [if_pos hn] at esc
      have s25 : Same H' H5 := Same.trans s24 s5
      exact nx _ H5 ⟨_, _, _, _, _, F, rfl, s'.trans s25, hL.mn s25, hE.mn s25, d6.mn s25, dP.mn s25, dF.mn s25, mo, by rw [← hsc, esc]⟩
theorem parting_layer {c : Ch} {rows : List D} {P L : List Me} {n0 : Nat} {res : Option (List Ev)} {H0 H' : Hp} {x y z : V} {pd ly fd : Addr} {us : List V} {w6 w7 w8 w9 w10 w11 : Option V} {Dd : Ends} (ok : OkC c) (hr : Rch c rows) (hl : rows.length ≤ 60)
    (hx : DAt (gs X C) H0 x (dCh c)) (npd : H0 pd = none) (nfd : H0 fd = none) (npf : pd ≠ fd) (h0 : PInv (gs X C) H0 x y z pd ly fd us c rows P L n0 res 0 [some x, some y, some z, some (.ref pd), some (.ref ly), some (.ref fd), w6, w7, w8, w9, w10, w11] H')
    (ret : ∀ v H2, Same H0 H2 → DAt (gs X C) H2 v (dRes res) → Dd.rt v H2) (hd : ∀ σ2 H2, PInv (gs X C) H0 x y z pd ly fd us c rows P L n0 res L.length σ2 H2 → Dd.nx σ2 H2) :
    tFor (iList X.K (tVar 4)) (gName 6) (tFor (iList X.K (tCall (spD (gs X C) m_events) [] C8.E0 (tCons (tVar 0) tNil))) (gName 7) (tPB X C)) Dd [some x, some y, some z, some (.ref pd), some (.ref ly), some (.ref fd), w6, w7, w8, w9, w10, w11] H' := by
  have wfr := hr.wf ok
  have hL0 : LS (gs X C) H' ly us (ksM L) := by obtain ⟨_, _, _, _, _, _, _, _, _, _, h, _⟩ := h0; exact h
  have eL : (ksM L).length = L.length := by unfold ksM; rw [List.length_map]
  refine ⟨.ref ly, rfl, ly, rfl, ⟨us, hL0.1⟩, for_LS (G := gs X C) (PInv (gs X C) H0 x y z pd ly fd us c rows P L n0 res) h0 (fun i σ H p => by obtain ⟨_, _, _, _, _, _, _, _, _, _, h, _⟩ := p; exact h) (fun i w s σ' H1 hw hsi dw p => ?_) (fun σ2 H2 p => hd σ2 H2 (by rw [eL] at p; exact p))⟩
  obtain ⟨w6, w7, w8, w9, w10, w11, F, n, rfl, s1, hLL, dP, dF, mo, hn, hA⟩ := p
  unfold ksM at hsi
  rw [List.getElem?_map] at hsi
  obtain ⟨⟨p, h⟩, hp, rfl⟩ := Option.map_eq_some_iff.mp hsi
  have hat : ((P ++ L) ++ F)[P.length + i]? = some (p, h) := by
    rw [List.append_assoc, List.getElem?_append_right (by omega), Nat.add_sub_cancel_left, List.getElem?_append_left (List.getElem?_eq_some_iff.mp hp).1]; exact hp
  have hinv := Apt.inv hA hat
  show tFor (iList X.K _) (gName 7) _ _ [some x, some y, some z, some (.ref pd), some (.ref ly), some (.ref fd), some w, w7, w8, w9, w10, w11] H1
  refine (ed_call (G := gs X C) (dom := m_events) (eda_cons (ed_var (σ := [some x, some y, some z, some (.ref pd), some (.ref ly), some (.ref fd), some w, w7, w8, w9, w10, w11]) rfl (hx.mn s1)) eda_nil) ⟨c, ok, rfl, rfl⟩) H1 (Same.refl H1) _ fun ve H2 s2 dve => ?_
  cases dve with
  | @lst ev es _ q1 q2 =>
    refine ⟨ev, rfl, ⟨es, q1⟩, for_LS (G := gs X C) (ds := (evsOf c).map dEv) (PInv2 (gs X C) H0 x y z pd ly fd ev us es w c rows P L p h ((P ++ L) ++ F)) ?_ (fun j σ H p => by obtain ⟨_, _, _, _, _, _, _, _, _, h, _⟩ := p; exact h) (fun j we de σ' H3 hwe hde dwe q => ?_) (fun σ' H3 q => ?_)⟩
    · exact ⟨w7, w8, w9, w10, w11, F, rfl, s1.trans s2, hLL.mn s2, ⟨q1, q2⟩, dw.mn s2, dP.mn s2, dF.mn s2, mo, by rw [List.drop_zero]⟩
    · obtain ⟨w7, w8, w9, w10, w11, F', rfl, s3, hL3, hE3, d63, dP3, dF3, mo3, hsc⟩ := q
      rw [List.getElem?_map] at hde
      obtain ⟨e, he, rfl⟩ := Option.map_eq_some_iff.mp hde
      refine parting_turn (X := X) (C := C) (q0 := fun _ => True) ok hr hl hx npd nfd npf (List.mem_append_right _ (List.mem_of_getElem? hp)) he dwe s3 hL3 hE3 d63 dP3 dF3 mo3 hsc (fun q v H4 hq s4 dv => ?_) (fun σ2 H4 q => q)
      rcases hinv with ⟨q', h1, h2⟩ | ⟨n', m', h1, h2, h3⟩
      · rw [h1] at hq; cases hq
        subst h2
        exact ret v H4 s4 dv
      · rw [h2] at hq; cases hq
    · obtain ⟨w7, w8, w9, w10, w11, F', rfl, s3, hL3, hE3, d63, dP3, dF3, mo3, hsc⟩ := q
      rw [List.length_map, List.drop_length] at hsc
      have hsc : Sum.inr ((P ++ L) ++ F') = scan (step c) p h (evsOf c) ((P ++ L) ++ F) := hsc
      rcases hinv with ⟨q', h1, h2⟩ | ⟨n', m', h1, h2, h3⟩
      · rw [h1] at hsc; cases hsc
      · rw [h2] at hsc
        cases hsc
        exact ⟨_, _, _, _, _, _, F', n', rfl, s3, hL3, dP3, dF3, mo3, by omega, h3⟩
/-- ahead of each turn of the while -/
def PW0 (G : Gs) (H0 : Hp) (x y z : V) (pd : Addr) (c : Ch) (rows : List D) (res : Option (List Ev)) (m : Nat) (σ' : L2.St) (H' : Hp) : Prop :=
  ∃ ly us w5 w6 w7 w8 w9 w10 w11 P L, σ' = [some x, some y, some z, some (.ref pd), some (.ref ly), w5, w6, w7, w8, w9, w10, w11] ∧ Same H0 H' ∧ LS G H' ly us (ksM L) ∧ DD G H' pd (ksM (P ++ L)) (hsM (P ++ L)) ∧ MOk c rows (P ++ L) ∧ AptC c m (P ++ L) P.length res
theorem p_parting (hm : m_parting ds r) (h : DAll (gs X C) H vs ds) : SRet (gs X C) (t_parting_of X C CC aS aT (spD (gs X C) m_events) (spD (gs X C) m_after_event)) (start N_parting_of vs) H r := by
  obtain ⟨c, rows, d, e, n0, res, ok, hr, hl, hd, he, hA, rfl, rfl⟩ := hm
  obtain ⟨x, y, z, rfl, h_chain, h_one, h_other⟩ := three_of h
  have wfr := hr.wf ok
  have k0 : kyd 4 (dPr (d, e)) = true := kyd_pr (wfr _ hd) (wfr _ he)
  intro Dd H0 s0 q
  have h_chain := h_chain.mn s0
  have h_one := h_one.mn s0
  have h_other := h_other.mn s0
  have pE : ∀ σ : L2.St, σ = [some x, some y, some z, none, none, none, none, none, none, none, none, none] → Ed (gs X C) (tTup (tCons (tVar 1) (tCons (tVar 2) tNil))) σ H0 (dPr (d, e)) := fun σ e' => by
    subst e'
    exact ed_tup (eda_cons (ed_var rfl h_one) (eda_cons (ed_var rfl h_other) eda_nil)) (by show 2 ≤ 100000; decide)
  refine q_parDN (G := gs X C) (edd_one (X := X) (C := C) (n := 4) (by decide) k0 (imm_hi []) (pE _ rfl) (ed_tup eda_nil (by show 0 ≤ 100000; decide))) (edn_lst (eda_cons (pE _ rfl) eda_nil) (by show 1 ≤ 100000; decide)) fun pd ly us H1 npd s1 dP hly da => ?_
  show tSeq (tWhile _ _) _ _ [some x, some y, some z, some (.ref pd), some (.ref ly), none, none, none, none, none, none, none] H1
  refine ⟨PW0 (gs X C) H0 x y z pd c rows res, ⟨n0, ly, us, none, none, none, none, none, none, none, [], [((d, e), [])], rfl, s1, ⟨.inl (.inl hly), da⟩, dP, ⟨(by simp), (fun x hx => by rw [List.mem_singleton.mp hx]; exact hd), (fun x hx => by rw [List.mem_singleton.mp hx]; exact he), (fun x hx => by rw [List.mem_singleton.mp hx]; intro f hf; cases hf), (fun x hx => by rw [List.mem_singleton.mp hx]; exact Nat.one_pos)⟩, hA⟩, fun m σ' H4 p => ?_⟩
  obtain ⟨ly, us, w5, w6, w7, w8, w9, w10, w11, P, L, rfl, s4, hL, dP, mo, hA⟩ := p
  have kL := (mo.left wfr).2
  have cmpL : CmpOk (.lst (ksM L)) (.lst []) := .inl ⟨⟨5, by decide, by rw [eqd]; exact eqdAll_iff.mpr fun s hs => kyd_eqd _ _ (kyd_mem kL hs)⟩, ⟨5, by decide, by rw [eqd]; rfl⟩⟩
  refine (Evl.et_is (et_test (ed_op (G := gs X C) (ed_var (σ := [some x, some y, some z, some (.ref pd), some (.ref ly), w5, w6, w7, w8, w9, w10, w11]) rfl hL.at) nil_list (rd_ne cmpL))) (by rw [lst_nil])) H4 (Same.refl H4) _ fun H5 s5 => ?_
  have s45 : Same H0 H5 := Same.trans s4 s5
  by_cases hnil : L = []
  · subst hnil
    rw [decide_eq_true (show ksM [] = [] from rfl)]
    refine iteF ?_
    rw [List.append_nil] at hA
    have := Apt.end_ hA (Nat.le_refl _)
    subst this
    exact (sr_ret (G := gs X C) (ed_non (σ := [some x, some y, some z, some (.ref pd), some (.ref ly), w5, w6, w7, w8, w9, w10, w11]))) Dd H5 (Same.refl H5) fun v H6 s6 dv => q v H6 (s45.trans s6) dv
  · rw [decide_eq_false (show ¬ ksM L = [] from fun z => hnil (List.map_eq_nil_iff.mp z))]
    refine iteT ⟨fun σ'' H'' => ∃ m', m' < m ∧ PW0 (gs X C) H0 x y z pd c rows res m' σ'' H'', fun _ _ z => z, ?_⟩
    refine q_setD (G := gs X C) (edd_new (X := X) (C := C)) fun fd H6 nf s6 dF => ?_
    have s06 : Same H0 H6 := s45.trans s6
    have npf : pd ≠ fd := by
      obtain ⟨o1, ho1⟩ := (dP.mn s5).some
      exact ne_of_none ho1 nf
    show tSeq (tFor _ _ _) _ _ [some x, some y, some z, some (.ref pd), some (.ref ly), some (.ref fd), w6, w7, w8, w9, w10, w11] H6
    refine parting_layer (X := X) (C := C) (c := c) (rows := rows) (P := P) (L := L) (n0 := m) (res := res) (us := us) ok hr hl h_chain npd (s45.free nf) npf ⟨w6, w7, w8, w9, w10, w11, [], m, rfl, s06, hL.mn (Same.trans s5 s6), dP.mn (Same.trans s5 s6), dF, by rw [List.append_nil]; exact mo, rfl, by rw [List.append_nil]; exact hA⟩ (fun v H7 s7 dv => q v H7 s7 dv) fun σ2 H7 p => ?_
    obtain ⟨w6, w7, w8, w9, w10, w11, F, n, rfl, s7, hL7, dP7, dF7, mo7, hn, hA7⟩ := p
    obtain ⟨kPL, kF⟩ := mo7.left wfr
    have hsz := mo7.size hl
    have lk : ∀ m : List Me, (ksM m).length = m.length := fun m => by unfold ksM; rw [List.length_map]
    have hne : ksM (P ++ L) ≠ [] := fun e => hnil (List.append_eq_nil_iff.mp (List.map_eq_nil_iff.mp e)).2
    have hdis : ∀ k ∈ ksM F, key k ∉ (ksM (P ++ L)).map key := fun k hk hin => by
      obtain ⟨yy, hy, e⟩ := List.mem_map.mp hin
      have e2 := key_inj yy k 4 4 (kyd_mem kPL hy) (kyd_mem kF hk) e
      subst e2
      obtain ⟨x1, hx1, e1⟩ := List.mem_map.mp hk
      subst e1
      have h1 := mem_ksM.mp hy
      have h2 : x1.1 ∈ F.map (·.1) := List.mem_map.mpr ⟨x1, hx1, rfl⟩
      have := mo7.nd
      rw [List.map_append] at this
      exact (List.nodup_append.mp this).2.2 _ h1 _ h2 rfl
    refine q_upd (X := X) (C := C) rfl rfl dP7 dF7 npf hne (by rw [lk, lk, ← List.length_append]; omega) hdis (by rw [immAll_append, immAll_kyd kPL, immAll_kyd kF]; rfl) (by rw [immAll_append, imm_hsM, imm_hsM]; rfl) fun H8 w8' le8 dP8 => ?_
    have s8 : Same H0 H8 := w8'.same npd s7
    have dF8 := dF7.wr w8' le8 (fun e => npf e.symm) (immAll_kyd kF) (imm_hsM _)
    refine s_setN (G := gs X C) (edn_lstDct (G := gs X C) (σ := [some x, some y, some z, some (.ref pd), some (.ref ly), some (.ref fd), w6, w7, w8, w9, w10, w11]) (ed_var rfl dF8.at)) fun ly2 us2 H10 nl2 s10 hl2 da2 => ?_
    refine ⟨n, ?_, ly2, us2, some (.ref fd), w6, w7, w8, w9, w10, w11, P ++ L, F, rfl, s8.trans s10, ⟨.inl (.inl hl2), da2⟩, ?_, mo7, ?_⟩
    · have : 0 < L.length := List.length_pos_iff.mpr hnil
      omega
    · rw [ksM_app (P ++ L), hsM_app (P ++ L)]; exact dP8.mn s10
    · rw [List.length_append]; exact hA7
end
end K3

set_option Elab.async false
set_option linter.all false
set_option maxRecDepth 100000
set_option maxHeartbeats 1000000
/-! Objects of Classes: made, looked at. -/
namespace K3
open PySem PySem.Spec PyProof.Rows L2 He KM
/-- tuples and locked things are kept -/
def LeT (H H' : Hp) : Prop := ∀ a o, H a = some o → (match o with | .tup _ => True | .frz _ _ => True | _ => False) → H' a = some o
theorem LeT.tp {K : PySem.W.Frag} {H H' : Hp} {a : Addr} {xs : List V} (e : LeT H H') (h : SqT K H a xs) : SqT K H' a xs := by
  rcases h with (h | ⟨o, h⟩) | h
  · exact .inl (.inl (e a _ h trivial))
  · exact .inl (.inr ⟨o, e a _ h trivial⟩)
  · exact .inr h
theorem LeT.ins {H : Hp} {a C dx : Addr} {fs fs' : List (Str × V)} (h : H a = some (.ins C dx fs)) : LeT H (upd H a (.ins C dx fs')) := fun b o e f => by
  by_cases q : b = a
  · subst q; rw [h] at e; cases e; cases f
  · rw [upd_ne q]; exact e
mutual
theorem DAt.lt {G : Gs} {H H' : Hp} (e : LeT H H') {d : D} {v : V} (i : imm d = true) (j : pln d = true) (h : DAt G H v d) : DAt G H' v d := by
  match h with
  | .non => exact .non
  | .bl _ => exact .bl _
  | .int _ => exact .int _
  | .str _ => exact .str _
  | .tup a b => exact .tup (e.tp a) (DAll.lt e (by rw [imm] at i; exact i) (by rw [pln] at j; exact j) b)
  | .chn a b => rw [pln] at j; cases j
  | .lst _ _ => rw [imm] at i; cases i
  | .dct _ _ _ => rw [imm] at i; cases i
theorem DAll.lt {G : Gs} {H H' : Hp} (e : LeT H H') {ds : List D} {vs : List V} (i : immAll ds = true) (j : plnAll ds = true) (h : DAll G H vs ds) : DAll G H' vs ds := by
  match h with
  | .nil => exact .nil
  | .cons a b =>
    rw [immAll] at i
    rw [plnAll] at j
    exact .cons (DAt.lt e (Bool.and_eq_true_iff.mp i).1 (Bool.and_eq_true_iff.mp j).1 a) (DAll.lt e (Bool.and_eq_true_iff.mp i).2 (Bool.and_eq_true_iff.mp j).2 b)
end
theorem DEnt.lt {G : Gs} {H H' : Hp} (e : LeT H H') {ks vs : List D} {xs : List (NestedKey × Addr × Value)} (i : immAll ks = true) (j : immAll vs = true) (pi : plnAll ks = true) (pj : plnAll vs = true) (h : DEnt G H ks vs xs) : DEnt G H' ks vs xs := by
  match h with
  | .nil => exact .nil
  | .cons a b c d r t =>
    rw [immAll] at i j
    rw [plnAll] at pi pj
    exact .cons (DAt.lt e (Bool.and_eq_true_iff.mp i).1 (Bool.and_eq_true_iff.mp pi).1 a) b c (DAt.lt e (Bool.and_eq_true_iff.mp j).1 (Bool.and_eq_true_iff.mp pj).1 d) r (DEnt.lt e (Bool.and_eq_true_iff.mp i).2 (Bool.and_eq_true_iff.mp j).2 (Bool.and_eq_true_iff.mp pi).2 (Bool.and_eq_true_iff.mp pj).2 t)
theorem plnAll_iff : ∀ {ds : List D}, plnAll ds = true ↔ ∀ d ∈ ds, pln d = true
  | [] => by simp [plnAll]
  | d :: ds => by rw [plnAll, Bool.and_eq_true, plnAll_iff (ds := ds)]; simp
theorem pln_kyd {n : Nat} {d : D} (h : kyd n d = true) : pln d = true := eqd_pln d n (kyd_eqd d n h)
/-- an object of Classes -/
def coF (l p : Addr) : List (Str × V) := putF "doubts" (.ref p) (putF "classes" (.ref l) [])
def CO (G : Gs) (CC : Addr) (H : Hp) (v : V) (gs : List (List D)) (ks hs : List D) : Prop := ∃ a dx l p, v = .ref a ∧ H a = some (.ins CC dx (coF l p)) ∧ DAt G H (.ref l) (lls gs) ∧ DAt G H (.ref p) (.dct ks hs)
theorem CO.mn {G : Gs} {CC : Addr} {H H' : Hp} {v : V} {gs : List (List D)} {ks hs : List D} (h : CO G CC H v gs ks hs) (s : Same H H') : CO G CC H' v gs ks hs := by
  obtain ⟨a, dx, l, p, e, h1, h2, h3⟩ := h
  exact ⟨a, dx, l, p, e, s a _ h1, h2.mn s, h3.mn s⟩
section
variable {G : Gs} {CC : Addr} {σ : L2.St} {H : Hp} {v : V} {gs : List (List D)} {ks hs : List D}
theorem ed_classes {i : Nat} (hc : Cls G.K CC) (hn : NoAttr G.K CC "classes") (e : σ[i]? = some (some v)) (h : CO G CC H v gs ks hs) : Ed G (tFld G.K (tVar i) "classes") σ H (lls gs) := fun H1 s Q q => by
  obtain ⟨a, dx, l, p, rfl, h1, h2, h3⟩ := h.mn s
  exact ⟨.ref a, e, a, CC, dx, _, .ref l, rfl, h1, hc, hn, rfl, q _ H1 (Same.refl H1) h2⟩
theorem ed_doubts {i : Nat} (hc : Cls G.K CC) (hn : NoAttr G.K CC "doubts") (e : σ[i]? = some (some v)) (h : CO G CC H v gs ks hs) : Ed G (tFld G.K (tVar i) "doubts") σ H (.dct ks hs) := fun H1 s Q q => by
  obtain ⟨a, dx, l, p, rfl, h1, h2, h3⟩ := h.mn s
  exact ⟨.ref a, e, a, CC, dx, _, .ref p, rfl, h1, hc, hn, rfl, q _ H1 (Same.refl H1) h3⟩
/-- [list(some) for some in classes] -/
theorem lc_copy {tl : TE} {j : Nat} (im : ∀ g ∈ gs, immAll g = true) (hl : gs.length ≤ 40000) (h : Ed G tl σ H (lls gs)) (hj : j < σ.length) :
    ∀ H1, Same H H1 → ∀ Q : VK, (∀ l as H2, H1 l = none → Same H1 H2 → OL G H1 H2 l as gs → Q (.ref l) H2) → tLc (iList G.K tl) (gName j) tYes (tCB (rLstU G) (tCons (tVar j) tNil)) [j] σ H1 Q := fun H1 s Q q =>
  h H1 s _ fun v H2 s2 dv => by
    unfold lls at dv
    cases dv with
    | @lst a xs _ h1 h2 =>
      have exs : xs.length = gs.length := by rw [h2.length, List.length_map]
      refine ⟨a, rfl, ⟨xs, h1⟩, fun l hl0 => ?_⟩
      refine lc_list (xs := xs) (fun i H' => Same H2 H' ∧ ∃ as, OL G H2 H' l as (gs.take i)) ⟨.new hl0, [], ⟨upd_same, (by rw [List.take_zero]; rfl), List.nodup_nil, (by simp), (fun a ha => by cases ha), (fun j a g ha _ => by simp at ha)⟩⟩ (fun i H' _ p => p.1.ls h1) (fun i x H' hx p => ?_) (fun H' p => ?_)
      · obtain ⟨s', as, ol⟩ := p
        obtain ⟨d, hd, dx⟩ := h2.getV hx
        rw [List.getElem?_map] at hd
        obtain ⟨g, hg, rfl⟩ := Option.map_eq_some_iff.mp hd
        have hi : i < gs.length := (List.getElem?_eq_some_iff.mp hg).1
        have e0 : ((wipe σ [j]).set j (some x))[j]? = some (some x) := by
          have : j < (wipe σ [j]).length := by rw [wipe_length]; exact hj
          rw [List.getElem?_set_self this]
        refine ⟨by unfold wipe; simp [wipe, List.set_set], ?_⟩
        unfold tYes
        refine iteT ?_
        have mk : EdN G (tCB (rLstU G) (tCons (tVar j) tNil)) ((wipe σ [j]).set j (some x)) H' g := fun H3 s3 Q3 q3 => ⟨x, e0, .inl (by
          have dx3 := dx.mn (s'.trans s3)
          cases dx3 with
          | @lst b us _ k1 k2 => exact ⟨b, us, rfl, .inl k1, fun p' hp' => q3 p' us _ hp' (.new hp') upd_same (k2.mn (.new hp'))⟩)⟩
        refine mk H' (Same.refl H') _ fun q' us H4 nq s4 hq da => ?_
        have ol4 := ol.mn s4
        have len : as.length = (gs.take i).length := ol.len
        have nqa : q' ∉ as := fun hm => by
          obtain ⟨k, hk, ek⟩ := List.mem_iff_getElem.mp hm
          have hk2 : k < (gs.take i).length := by omega
          obtain ⟨us', z, _⟩ := ol.get k q' _ (by rw [List.getElem?_eq_getElem hk, ek]) (List.getElem?_eq_getElem hk2)
          rw [nq] at z; cases z
        have nql : q' ≠ l := fun e => by rw [e, ol.at_] at nq; cases nq
        refine ⟨as.map V.ref, ol4.at_, Evl.sz_lt (by rw [List.length_map, len, List.length_take]; omega), ?_⟩
        obtain ⟨o2, le⟩ := ol4.push (fun g hg => im g (List.mem_of_mem_take hg)) hq da (im g (List.mem_of_getElem? hg)) nqa nql (s'.free nq)
        refine ⟨(s'.trans s4).mut hl0, as ++ [q'], ?_⟩
        rw [take_snoc hg]; exact o2
      · obtain ⟨s', as, ol⟩ := p
        rw [exs, List.take_length] at ol
        exact q l as H' (s2.free hl0) (s2.trans s') ⟨ol.at_, ol.len, ol.nd, ol.ne, fun a ha => s2.free (ol.free a ha), ol.get⟩
/-- {pair: history for pair, history in doubts.items()} -/
theorem edd_items {td : TE} {n i j : Nat} (hn : n ≤ 8) (ht : ∀ d ∈ ks, ∃ es, d = .tup es) (kk : kydAll n ks = true) (nd : ks.Nodup) (iv : immAll hs = true) (hl : ks.length ≤ 40000) (h : Ed G td σ H (.dct ks hs)) (hi : i < σ.length) (hj : j < σ.length) (hij : i ≠ j) :
    EdD G (tDcX G (iDP td) (gTup G.K 2 (gCons (gName i) (gCons (gName j) gNil))) tYes (tVar i) (tVar j) [i, j]) σ H ks hs := fun H0 s0 Q q =>
  h H0 s0 _ fun v H1 s1 dv => by
    obtain ⟨a, rfl⟩ : ∃ a, v = .ref a := by cases dv; exact ⟨_, rfl⟩
    have dd := dv.dd
    obtain ⟨o, es, xs, src, e2, h3⟩ := dd.src
    have sz : es.size = ks.length := src_size e2 h3
    have lkv := dd.len
    refine ⟨a, o, es, rfl, src, fun p hp low => ?_⟩
    refine ⟨fun i m H' => m = ks.length - i ∧ i ≤ ks.length ∧ CD G H1 p (ks.take i) (hs.take i) H', ⟨ks.length, by simp, Nat.zero_le _, by rw [List.take_zero, List.take_zero]; exact cd_start hp low⟩, ?_⟩
    rintro k m H' ⟨rfl, hk, c⟩
    have hat : H' a = some (objO a o) := c.1 a _ src.at_
    by_cases hlt : k < ks.length
    · refine .inr ⟨⟨hat, by omega⟩, fun H'' => CD G H1 p (ks.take (k + 1)) (hs.take (k + 1)) H'', fun H'' z => ⟨_, by omega, rfl, hlt, z⟩, fun x H'' y => ?_⟩
      obtain ⟨T, kv, vv, en, he, rk, rv, rfl, nT, rfl⟩ := y
      obtain ⟨b, d, e, v', u, q1, q2, q3, q4, q5, q6, q7⟩ := src_at e2 h3 he
      rw [q1] at rk
      rw [q2] at rv
      have ek : kv = .ref b := relV_eq rk rfl
      have ev := relV_eq rv q7
      subst ek ev
      have hmd := List.mem_of_getElem? q3
      have sT : Same H' (upd H' T (.tup [.ref b, vv])) := .new nT
      have dpr : DAt G (upd H' T (.tup [.ref b, vv])) (.ref T) (.tup [d, e]) := .tup (.inl (.inl upd_same)) (.cons (q5.mn (c.1.trans sT)) (.cons (q6.mn (c.1.trans sT)) .nil))
      generalize upd H' T (.tup [.ref b, vv]) = HT at sT dpr
      have li : i < (wipe σ [i, j]).length := by rw [wipe_length]; exact hi
      have lj : j < (wipe σ [i, j]).length := by rw [wipe_length]; exact hj
      refine g_pair (G := G) dpr fun y z d_k d_v => ⟨?_, ?_⟩
      · apply List.ext_getElem?
        intro t
        unfold wipe
        simp only [wipe, List.getElem?_set]
        simp only [List.length_set]
        by_cases h1 : i = t
        · subst h1; simp
        · by_cases h2 : j = t
          · subst h2; simp [h1]
          · simp [h1, h2]
      unfold tYes
      refine iteT ⟨y, by rw [List.getElem?_set_ne (fun e => hij e.symm), List.getElem?_set_self li], ⟨z, by rw [List.getElem?_set_self (by rw [List.length_set]; exact lj)], ?_⟩⟩
      rw [take_snoc q3, take_snoc q4]
      exact cd_put hp ⟨c.1.trans sT, c.2.mn sT⟩ (isK_tup hn (ht d hmd) (kyd_mem kk hmd) d_k) d_v (kyd_take kk k) (kyd_mem kk hmd) (not_mem_take nd q3) (immAll_take iv k) (immAll_iff.mp iv e (List.mem_of_getElem? q4)) (by rw [List.length_take]; omega) fun H6 c6 _ _ => c6
    · have e : k = ks.length := by omega
      subst e
      have c' := c
      rw [List.take_length] at c'
      rw [show hs.take ks.length = hs by rw [lkv, List.take_length]] at c'
      exact .inl ⟨⟨hat, by omega⟩, q p H' (s1.free hp) (s1.trans c'.1) c'.2⟩
end
end K3

set_option Elab.async false
set_option linter.all false
set_option maxRecDepth 100000
set_option maxHeartbeats 1000000
/-! Classes: made, asked. -/
namespace K3
open PySem PySem.Spec PyProof.Rows L2 He KM
/-- plain parts of such an object -/
structure COk (gs : List (List D)) (ks hs : List D) : Prop where
  gi : ∀ g ∈ gs, immAll g = true
  gp : ∀ g ∈ gs, plnAll g = true
  gl : gs.length ≤ 1000
  kt : ∀ d ∈ ks, ∃ es, d = .tup es
  kk : kydAll 1 ks = true
  kn : ks.Nodup
  kl : ks.length ≤ 10000
  hi : immAll hs = true
  hp : plnAll hs = true
def spCi (G : Gs) (CC : Addr) : Sp := fun vs H Q _ => ∃ a dx v1 v2 gs ks hs, vs = [.ref a, v1, v2] ∧ H a = some (.ins CC dx []) ∧ DAt G H v1 (lls gs) ∧ DAt G H v2 (.dct ks hs) ∧ COk gs ks hs ∧
  ∀ H', (∀ b o, b ≠ a → H b = some o → H' b = some o) → CO G CC H' (.ref a) gs ks hs → Q .non H'
theorem OL.lt {G : Gs} {H0 H H' : Hp} {l a : Addr} {as : List Addr} {gs : List (List D)} (o : OL G H0 H l as gs) (n1 : l ≠ a) (n2 : a ∉ as) (e : LeT H H') (k : ∀ b, b ≠ a → H' b = H b) (gi : ∀ g ∈ gs, immAll g = true) (gp : ∀ g ∈ gs, plnAll g = true) : OL G H0 H' l as gs :=
  ⟨by rw [k l n1]; exact o.at_, o.len, o.nd, o.ne, o.free, fun j b g hb hg => by
    obtain ⟨us, h1, h2⟩ := o.get j b g hb hg
    have hm := List.mem_of_getElem? hg
    exact ⟨us, by rw [k b (fun q => n2 (by rw [← q]; exact List.mem_of_getElem? hb))]; exact h1, DAll.lt e (gi g hm) (gp g hm) h2⟩⟩
theorem DD.lt {G : Gs} {H H' : Hp} {a p : Addr} {ks vs : List D} (d : DD G H p ks vs) (n : p ≠ a) (e : LeT H H') (k : ∀ b, b ≠ a → H' b = H b) (i : immAll ks = true) (j : immAll vs = true) (pi : plnAll ks = true) (pj : plnAll vs = true) : DD G H' p ks vs := by
  obtain ⟨o, xs, h1, h2, h3⟩ := d
  exact ⟨o, xs, by rw [k p n]; exact h1, h2, h3.lt e i j pi pj⟩
section
variable {X : Cx} {C CC aS aT : Addr} {H : Hp} {vs : List V} {ds : List D} {r : D}
theorem s_fldN {σ : L2.St} {K : PySem.W.Frag} {te : TE} {f : Str} {Dd : Ends} {a dx C0 : Addr} {fs : List (Str × V)} {i : Nat} {P : V → Hp → Prop} (hc : Cls K C0) (hn : NoAttr K C0 f) (e : σ[i]? = some (some (.ref a))) (hl : fs.length < 1000)
    (h : ∀ Q : VK, (∀ v H1, P v H1 → Q v H1) → te σ H Q) (k : ∀ v H1, P v H1 → H1 a = some (.ins C0 dx fs) ∧ Dd.nx σ (upd H1 a (.ins C0 dx (putF f v fs)))) : sFld K (tVar i) te f Dd σ H :=
  h _ fun v H1 p => ⟨.ref a, e, a, C0, dx, fs, rfl, (k v H1 p).1, hc, hn, hl, (k v H1 p).2⟩
theorem p_Classes_init (F : Fp X.K C CC aS aT) {Q : VK} {E : XK} {Dd : Ends} (hD : ∀ σ H', Q .non H' → Dd.nx σ H') (h : spCi (gs X C) CC vs H Q E) : t_Classes_init X C CC aS aT Dd (start N_Classes_init vs) H := by
  obtain ⟨a, dx, v1, v2, gl, ks, hs, rfl, ha, h1, h2, ok, q⟩ := h
  obtain ⟨b2, rfl⟩ : ∃ b, v2 = .ref b := by cases h2; exact ⟨_, rfl⟩
  have kp : plnAll ks = true := plnAll_iff.mpr fun d hd => pln_kyd (kyd_mem ok.kk hd)
  have ki := immAll_kyd ok.kk
  obtain ⟨o2, ho2⟩ := h2.dd.some
  have n2 : b2 ≠ a := fun e => by rw [e, ha] at ho2; cases ho2
  show sFld X.K (tVar 0) _ "classes" { Dd with nx := sFld X.K (tVar 0) _ "doubts" Dd } [some (.ref a), some v1, some (.ref b2), none, none, none] H
  refine s_fldN (i := 0) (a := a) (dx := dx) (C0 := CC) (fs := []) (P := fun v H1 => ∃ l as, v = .ref l ∧ H l = none ∧ Same H H1 ∧ OL (gs X C) H H1 l as gl) F.clsCC F.nClasses rfl (by decide)
    (fun Q k => lc_copy (G := gs X C) ok.gi (by have := ok.gl; omega) (ed_var (σ := [some (.ref a), some v1, some (.ref b2), none, none, none]) rfl h1) (by show 3 < 6; decide) H (Same.refl H) Q fun l as H1 n s o => k _ H1 ⟨l, as, rfl, n, s, o⟩) fun v H1 p => ?_
  obtain ⟨l, as, rfl, nl, s1, ol⟩ := p
  have ha1 : H1 a = some (.ins CC dx []) := s1 a _ ha
  refine ⟨ha1, ?_⟩
  have nla : l ≠ a := fun e => by rw [e, ha] at nl; cases nl
  have naa : a ∉ as := fun hm => by have := ol.free a hm; rw [ha] at this; cases this
  generalize hH2 : upd H1 a (.ins CC dx (putF "classes" (.ref l) [])) = H2
  have ha2 : H2 a = some (.ins CC dx (putF "classes" (.ref l) [])) := by rw [← hH2]; exact upd_same
  have k2 : ∀ b, b ≠ a → H2 b = H1 b := fun b n => by rw [← hH2]; exact upd_ne n
  have lt2 : LeT H1 H2 := by rw [← hH2]; exact LeT.ins ha1
  have ol2 := ol.lt nla naa lt2 k2 ok.gi ok.gp
  have dd2 := ((h2.mn s1).dd).lt n2 lt2 k2 ki ok.hi kp ok.hp
  refine s_fldN (i := 0) (a := a) (dx := dx) (C0 := CC) (fs := putF "classes" (.ref l) []) (P := fun v H3 => ∃ p, v = .ref p ∧ H2 p = none ∧ Same H2 H3 ∧ DD (gs X C) H3 p ks hs) F.clsCC F.nDoubts rfl (by show 1 < 1000; decide)
    (fun Q k => edd_items (G := gs X C) (n := 1) (by decide) ok.kt ok.kk ok.kn ok.hi (by have := ok.kl; omega) (ed_var (σ := [some (.ref a), some v1, some (.ref b2), none, none, none]) rfl dd2.at) (by show 4 < 6; decide) (by show 5 < 6; decide) (by decide) H2 (Same.refl H2) Q fun p H3 n s d => k _ H3 ⟨p, rfl, n, s, d⟩) fun v H3 p => ?_
  obtain ⟨p, rfl, np, s3, dd3⟩ := p
  have ha3 : H3 a = some (.ins CC dx (putF "classes" (.ref l) [])) := s3 a _ ha2
  refine ⟨ha3, hD _ _ (q _ (fun b o n hb => ?_) ?_)⟩
  · rw [upd_ne n]
    exact s3 b o (by rw [k2 b n]; exact s1 b o hb)
  · have npa : p ≠ a := fun e => by rw [e, ha2] at np; cases np
    generalize hH4 : upd H3 a (.ins CC dx (putF "doubts" (.ref p) (putF "classes" (.ref l) []))) = H4
    have ha4 : H4 a = some (.ins CC dx (coF l p)) := by rw [← hH4]; exact upd_same
    have k4 : ∀ b, b ≠ a → H4 b = H3 b := fun b n => by rw [← hH4]; exact upd_ne n
    have lt4 : LeT H3 H4 := by rw [← hH4]; exact LeT.ins ha3
    exact ⟨a, dx, l, p, rfl, ha4, ((ol2.mn s3).lt nla naa lt4 k4 ok.gi ok.gp).at, (dd3.lt npa lt4 k4 ki ok.hi kp ok.hp).at⟩
/-! ### shows -/
abbrev Pr : Type := Nat × Nat
def kD (pk : List Pr) : List D := pk.map dP
def hD (pk : List Pr) (hf : Pr → List Ev) : List D := pk.map fun p => dHi (hf p)
def headD (gs : List (List D)) (i : Nat) : D := (gs.getD i []).headD .non
open Classical in
noncomputable def showM (c : Ch) (rows : List D) (gs : List (List D)) (pk : List Pr) (hf : Pr → List Ev) : Bool :=
  decide (gs = clsC c rows) && (decide ((prs gs.length).length = pk.length) && (prs gs.length).all fun p => decide (p ∈ pk)) && (prs gs.length).all fun p => spk (step c) false (headD gs p.1) (headD gs p.2) (hf p)
structure SOk (c : Ch) (rows : List D) (gs : List (List D)) (pk : List Pr) (hf : Pr → List Ev) : Prop where
  ok : OkC c
  hr : Rch c rows
  hl : rows.length ≤ 60
  wf : ∀ g ∈ gs, ∀ s ∈ g, WfS c s
  gl : gs.length ≤ 60
  nd : pk.Nodup
  pl : pk.length ≤ 5000
  ev : ∀ p ∈ pk, ∀ e ∈ hf p, e ∈ evsOf c
def spSh (G : Gs) (CC : Addr) : Sp := fun vs H Q _ => ∃ v vc c rows gs pk hf, vs = [v, vc] ∧ SOk c rows gs pk hf ∧ CO G CC H v gs (kD pk) (hD pk hf) ∧ DAt G H vc (dCh c) ∧ ∀ v H', Same H H' → DAt G H' v (.bl (showM c rows gs pk hf)) → Q v H'
theorem dP_inj {p q : Pr} (h : dP p = dP q) : p = q := by
  unfold dP at h
  injection h with h
  injection h with h1 h2
  injection h2 with h2 _
  injection h1 with h1
  injection h2 with h2
  exact Prod.ext (Int.ofNat.inj h1) (Int.ofNat.inj h2)
theorem kyd_dP (p : Pr) : kyd 1 (dP p) = true := rfl
theorem kyd_kD (pk : List Pr) : kydAll 1 (kD pk) = true := kydAll_iff.mpr fun d hd => by obtain ⟨p, _, rfl⟩ := List.mem_map.mp hd; rfl
theorem mem_kD {pk : List Pr} {p : Pr} : dP p ∈ kD pk ↔ p ∈ pk := by
  unfold kD
  rw [List.mem_map]
  exact ⟨fun ⟨q, h, e⟩ => dP_inj e ▸ h, fun h => ⟨p, h, rfl⟩⟩
theorem nodup_mapI {α β : Type} {f : α → β} (inj : ∀ a b, f a = f b → a = b) : ∀ {l : List α}, l.Nodup → (l.map f).Nodup
  | [], _ => List.nodup_nil
  | a :: l, h => by
    obtain ⟨h1, h2⟩ := List.nodup_cons.mp h
    rw [List.map_cons, List.nodup_cons]
    refine ⟨fun hm => ?_, nodup_mapI inj h2⟩
    obtain ⟨b, hb, e⟩ := List.mem_map.mp hm
    exact h1 (inj b a e ▸ hb)
theorem kD_nd {pk : List Pr} (h : pk.Nodup) : (kD pk).Nodup := by
  unfold kD
  exact nodup_mapI (fun a b e => dP_inj e) h
end
end K3

set_option Elab.async false
set_option linter.all false
set_option maxRecDepth 100000
set_option maxHeartbeats 1000000
/-! Classes.shows. -/
namespace K3
open PySem PySem.Spec PyProof.Rows L2 He KM
theorem mem_prs {n : Nat} {p : Pr} : p ∈ prs n ↔ p.1 < p.2 ∧ p.2 < n := by
  unfold prs prsTo rowP
  rw [List.mem_flatMap]
  constructor
  · rintro ⟨i, hi, hp⟩
    obtain ⟨j, hj, rfl⟩ := List.mem_map.mp hp
    rw [List.mem_range] at hi hj
    exact ⟨by show i < i + 1 + j; omega, by show i + 1 + j < n; omega⟩
  · rintro ⟨h1, h2⟩
    refine ⟨p.1, List.mem_range.mpr (by omega), List.mem_map.mpr ⟨p.2 - (p.1 + 1), List.mem_range.mpr (by omega), ?_⟩⟩
    exact Prod.ext rfl (by show p.1 + 1 + (p.2 - (p.1 + 1)) = p.2; omega)
def unP : D → Pr
  | .tup [.int i, .int j] => (i.toNat, j.toNat)
  | _ => (0, 0)
theorem unP_dP (p : Pr) : unP (dP p) = p := by
  show ((p.1 : Int).toNat, (p.2 : Int).toNat) = p
  rw [Int.toNat_natCast, Int.toNat_natCast]
theorem hD_map (pk : List Pr) (hf : Pr → List Ev) : hD pk hf = (kD pk).map fun d => dHi (hf (unP d)) := by
  unfold hD kD
  rw [List.map_map]
  apply List.map_congr_left
  intro p _
  show _ = dHi (hf (unP (dP p)))
  rw [unP_dP]
theorem dget_hD {pk : List Pr} {hf : Pr → List Ev} {p : Pr} (h : p ∈ pk) : dget (kD pk) (hD pk hf) (dP p) = some (dHi (hf p)) := by
  rw [hD_map, dget_map (f := fun d => dHi (hf (unP d))) (kyd_dP p) (kyd_kD pk) (mem_kD.mpr h), unP_dP]
theorem lls_inj {a b : List (List D)} : lls a = lls b ↔ a = b := by
  constructor
  · intro h
    unfold lls at h
    injection h with h
    exact (List.map_inj_right (f := D.lst) fun x y e => by injection e).mp h
  · intro h; rw [h]
theorem eqd_lls {c : Ch} {gs : List (List D)} (h : ∀ g ∈ gs, ∀ s ∈ g, WfS c s) : eqd 5 (lls gs) = true := by
  unfold lls
  rw [eqd]
  refine eqdAll_iff.mpr fun d hd => ?_
  obtain ⟨g, hg, rfl⟩ := List.mem_map.mp hd
  rw [eqd]
  exact eqdAll_iff.mpr fun s hs => kyd_eqd _ _ (wfS_kyd (h g hg s hs))
theorem cmp_lls {c : Ch} {a b : List (List D)} (h : ∀ g ∈ a, ∀ s ∈ g, WfS c s) (k : ∀ g ∈ b, ∀ s ∈ g, WfS c s) : CmpOk (lls a) (lls b) := .inl ⟨⟨5, by decide, eqd_lls h⟩, ⟨5, by decide, eqd_lls k⟩⟩
theorem cls_sub {T : D → D → Prop} (rows : List D) : ∀ g ∈ cls T rows, ∀ s ∈ g, s ∈ rows := KM.snoc_ind (P := fun rows => ∀ g ∈ cls T rows, ∀ s ∈ g, s ∈ rows) (fun g hg => by cases hg) (fun l a ih => by
  rw [cls_snoc]
  have key : ∀ gs : List (List D), (∀ g ∈ gs, ∀ s ∈ g, s ∈ l) → ∀ g ∈ insG T a gs, ∀ s ∈ g, s ∈ l ++ [a] := fun gs => by
    induction gs with
    | nil => intro _ g hg s hs; rw [insG] at hg; rw [List.mem_singleton.mp hg] at hs; exact List.mem_append_right _ hs
    | cons x gs ih2 =>
      intro h g hg s hs
      rw [insG] at hg
      split at hg
      · rcases List.mem_cons.mp hg with z | z
        · rw [z] at hs
          rcases List.mem_append.mp hs with y | y
          · exact List.mem_append_left _ (h x List.mem_cons_self s y)
          · exact List.mem_append_right _ y
        · exact List.mem_append_left _ (h g (List.mem_cons_of_mem _ z) s hs)
      · rcases List.mem_cons.mp hg with z | z
        · rw [z] at hs; exact List.mem_append_left _ (h x List.mem_cons_self s hs)
        · exact ih2 (fun y hy => h y (List.mem_cons_of_mem _ hy)) g z s hs
  exact key _ ih) rows
theorem cls_ne {T : D → D → Prop} (rows : List D) : ∀ g ∈ cls T rows, g ≠ [] := KM.snoc_ind (P := fun rows => ∀ g ∈ cls T rows, g ≠ []) (fun g hg => by cases hg) (fun l a ih => by
  rw [cls_snoc]
  have key : ∀ gs : List (List D), (∀ g ∈ gs, g ≠ []) → ∀ g ∈ insG T a gs, g ≠ [] := fun gs => by
    induction gs with
    | nil => intro _ g hg; rw [insG] at hg; rw [List.mem_singleton.mp hg]; simp
    | cons x gs ih2 =>
      intro h g hg
      rw [insG] at hg
      split at hg
      · rcases List.mem_cons.mp hg with z | z
        · rw [z]; simp
        · exact h g (List.mem_cons_of_mem _ z)
      · rcases List.mem_cons.mp hg with z | z
        · rw [z]; exact h x List.mem_cons_self
        · exact ih2 (fun y hy => h y (List.mem_cons_of_mem _ hy)) g z
  exact key _ ih) rows
theorem headD_mem {gs : List (List D)} {i : Nat} (hi : i < gs.length) (hn : ∀ g ∈ gs, g ≠ []) : ∃ g, gs[i]? = some g ∧ g[0]? = some (headD gs i) ∧ g ∈ gs ∧ headD gs i ∈ g := by
  have hg : gs[i]? = some gs[i] := List.getElem?_eq_getElem hi
  have hm := List.getElem_mem hi
  refine ⟨gs[i], hg, ?_, hm, ?_⟩
  · unfold headD
    rw [List.getD_eq_getElem?_getD, hg]
    show gs[i][0]? = some (gs[i].headD .non)
    have := hn _ hm
    cases hgi : gs[i] with
    | nil => exact absurd hgi this
    | cons x r => rfl
  · unfold headD
    rw [List.getD_eq_getElem?_getD, hg]
    exact head_mem (hn _ hm)
section
variable {X : Cx} {C CC aS aT : Addr} {H : Hp} {vs : List V} {ds : List D} {r : D}
theorem sr_drop {G : Gs} {σ : L2.St} {H : Hp} {te : TE} {z : TS} {d r : D} (h : Ed G te σ H d) (k : ∀ H1, Same H H1 → SRet G z σ H1 r) : SRet G (tSeq (tDrop te) z) σ H r := fun Dd H1 s q =>
  h H1 s _ fun v H2 s2 _ => k H2 (s.trans s2) Dd H2 (Same.refl H2) fun w H3 s3 dw => q w H3 (s2.trans s3) dw
theorem p_shows (F : Fp X.K C CC aS aT) {v vc : V} {c : Ch} {rows : List D} {gs0 : List (List D)} {pk : List Pr} {hf : Pr → List Ev} (o : SOk c rows gs0 pk hf) (h1 : CO (gs X C) CC H v gs0 (kD pk) (hD pk hf)) (h2 : DAt (gs X C) H vc (dCh c)) :
    SRet (gs X C) (t_Classes_shows X C CC aS aT (spD (gs X C) m_check) (spD (gs X C) m_listed) (spD (gs X C) m_pairs) (spD (gs X C) m_does_part)) (start N_Classes_shows [v, vc]) H (.bl (showM c rows gs0 pk hf)) := by
  obtain ⟨ok, hr, hl, wf, gl, nd, pl, ev⟩ := o
  have wfr := hr.wf ok
  have wfc : ∀ g ∈ clsC c rows, ∀ s ∈ g, WfS c s := fun g hg s hs => wfr s (cls_sub rows g hg s hs)
  have clE : ∀ {σ : L2.St} {H1 : Hp}, Same H H1 → σ[0]? = some (some v) → Ed (gs X C) (tFld X.K (tVar 0) "classes") σ H1 (lls gs0) := fun s e => ed_classes (G := gs X C) F.clsCC F.nClasses e (h1.mn s)
  have doE : ∀ {σ : L2.St} {H1 : Hp}, Same H H1 → σ[0]? = some (some v) → Ed (gs X C) (tFld X.K (tVar 0) "doubts") σ H1 (.dct (kD pk) (hD pk hf)) := fun s e => ed_doubts (G := gs X C) F.clsCC F.nDoubts e (h1.mn s)
  refine sr_drop (ed_call (dom := m_check) (eda_cons (ed_var rfl h2) eda_nil) ⟨c, rfl, rfl⟩) fun H1 s1 => ?_
  refine sr_when (b := !decide (lls gs0 = lls (clsC c rows))) (et_test (ed_op (clE s1 rfl) (ed_call (dom := m_listed) (eda_cons (ed_var rfl (h2.mn s1)) eda_nil) ⟨c, rows, ok, hr, hl, rfl, rfl⟩) (rd_ne (cmp_lls wf wfc)))) (fun hb => ?_) (fun hb => ?_)
  · have hb : ¬ lls gs0 = lls (clsC c rows) := by simpa using hb
    have e : showM c rows gs0 pk hf = false := by
      unfold showM
      rw [decide_eq_false (fun z => hb (lls_inj.mpr z))]; rfl
    rw [e]
    exact sr_ret ed_bl
  · have hb : lls gs0 = lls (clsC c rows) := by simpa using hb
    have hg := lls_inj.mp hb
    have ne : ∀ g ∈ gs0, g ≠ [] := by rw [hg]; exact cls_ne rows
    have llen : (gs0.map D.lst).length = gs0.length := List.length_map _
    refine sr_asg (d := .lst ((prs gs0.length).map dP)) (ed_call (dom := m_pairs) (eda_cons (Ed.is (ed_cb (eda_cons (clE s1 rfl) eda_nil) rc_lenL) (by rw [llen])) eda_nil) ⟨gs0.length, gl, rfl, rfl⟩) fun vd H2 s2 d2 => ?_
    have s12 := s1.trans s2
    have plen : (prs gs0.length).length ≤ 3600 := by
      have h1 := prsTo_len gs0.length gs0.length
      have h2 : gs0.length * gs0.length ≤ 60 * 60 := Nat.mul_le_mul gl gl
      unfold prs; omega
    refine sr_when (b := !(decide ((prs gs0.length).length = pk.length) && (prs gs0.length).all fun p => decide (p ∈ pk))) (Evl.et_is (Evl.et_or (et_test (ed_op (ed_cb (eda_cons (ed_var rfl d2) eda_nil) rc_lenL) (ed_cb (eda_cons (doE s12 rfl) eda_nil) rc_lenD) (rd_ne (ci _ _)))) fun _ => Evl.et_not (et_B (ed_cb (eda_cons (Ed.is (EdN.ed (ed_lcL (G := gs X C) (ds := (prs gs0.length).map dP) (fun d => some (.bl (decide (d ∈ kD pk)))) (by rw [List.length_map]; omega) (ed_var rfl d2) (fun d _ r e => by cases e; rfl) (fun d hd x H3 s3 dx => ?_))) (e := .lst ((((prs gs0.length).map fun p => decide (p ∈ pk))).map .bl)) ?_) eda_nil) rc_all))) ?_) (fun hb => ?_) (fun hb => ?_)
    · obtain ⟨p, hp, rfl⟩ := List.mem_map.mp hd
      refine ct_name rfl et_yes fun r hr => ?_
      cases hr
      refine Ed.is (ed_op (ed_var rfl dx) (doE (s12.trans s3) rfl) (rd_inD (n := 1) (by decide) (kyd_dP p))) ?_
      exact congrArg D.bl (kix_mem (kyd_dP p) (kyd_kD pk))
    · rw [List.filterMap_map, List.map_map]
      congr 1
      rw [show ((fun d => some (D.bl (decide (d ∈ kD pk)))) ∘ dP) = fun p => some (D.bl (decide (dP p ∈ kD pk))) from rfl, List.filterMap_eq_map']
      exact List.map_congr_left fun p _ => congrArg D.bl (decB mem_kD)
    · rw [List.length_map]
      have e1 : decide ((D.int ((prs gs0.length).length : Int)) = D.int ((kD pk).length : Int)) = decide ((prs gs0.length).length = pk.length) := decB (by
        rw [D.int_eq]; unfold kD; rw [List.length_map]
        exact ⟨fun h => Int.ofNat.inj h, fun h => by rw [h]⟩)
      rw [e1, List.all_map, Bool.not_and]; rfl
    · have hb : (decide ((prs gs0.length).length = pk.length) && (prs gs0.length).all fun p => decide (p ∈ pk)) = false := by simpa only [Bool.not_eq_true'] using hb
      have e : showM c rows gs0 pk hf = false := by
        unfold showM
        rw [hb, Bool.and_false, Bool.false_and]
      rw [e]
      exact sr_ret ed_bl
    · have hb : (decide ((prs gs0.length).length = pk.length) && (prs gs0.length).all fun p => decide (p ∈ pk)) = true := by simpa only [Bool.not_eq_false'] using hb
      rw [Bool.and_eq_true] at hb
      have hin : ∀ p ∈ prs gs0.length, p ∈ pk := fun p hp => of_decide_eq_true (List.all_eq_true.mp hb.2 p hp)
      have eM : showM c rows gs0 pk hf = (prs gs0.length).all fun p => spk (step c) false (headD gs0 p.1) (headD gs0 p.2) (hf p) := by
        unfold showM
        rw [decide_eq_true hg, hb.1, List.all_eq_true.mpr (fun p hp => decide_eq_true (hin p hp))]; rfl
      intro Dd H0 s0 q
      have s20 := s12.trans s0
      have d2 := d2.mn s0
      obtain ⟨a, us, rfl, q1, q2⟩ : ∃ a us, vd = .ref a ∧ SqL (gs X C).K H0 a us ∧ DAll (gs X C) H0 us ((prs gs0.length).map dP) := by
        cases d2 with
        | lst k1 k2 => exact ⟨_, _, rfl, k1, k2⟩
      show tSeq (tFor _ _ _) _ Dd [some v, some vc, some (.ref a), none, none, none] H0
      refine ⟨.ref a, rfl, a, rfl, ⟨us, q1⟩, for_LS (G := gs X C) (ds := (prs gs0.length).map dP) (fun i σ' H' => (∃ w3 w4 w5, σ' = [some v, some vc, some (.ref a), w3, w4, w5]) ∧ Same H0 H' ∧ ((prs gs0.length).take i).all (fun p => spk (step c) false (headD gs0 p.1) (headD gs0 p.2) (hf p)) = true) ⟨⟨none, none, none, rfl⟩, Same.refl H0, by rw [List.take_zero]; rfl⟩ (fun i σ H' p => ⟨p.2.1.ls q1, q2.mn p.2.1⟩) (fun i x d σ' H' hx hd dx p => ?_) (fun σ' H' p => ?_)⟩
      · obtain ⟨⟨w3, w4, w5, rfl⟩, s', hall⟩ := p
        rw [List.getElem?_map] at hd
        obtain ⟨p, hp, rfl⟩ := Option.map_eq_some_iff.mp hd
        have hmp := List.mem_of_getElem? hp
        obtain ⟨p1, p2⟩ := mem_prs.mp hmp
        have sH := s20.trans s'
        obtain ⟨g1, a1, b1, c1, e1⟩ := headD_mem (i := p.1) (by omega) ne
        obtain ⟨g2, a2, b2, c2, e2⟩ := headD_mem (i := p.2) p2 ne
        refine g_pair (G := gs X C) dx fun u w du dw => ?_
        show tIfS (tNot _) (tRet _) tNext _ [some v, some vc, some (.ref a), some u, some w, w5] H'
        have ix : ∀ (j : Nat) (g : List D) (k : Nat) (vv : V), gs0[k]? = some g → g[0]? = some (headD gs0 k) → ([some v, some vc, some (.ref a), some u, some w, w5] : L2.St)[j]? = some (some vv) → DAt (gs X C) H' vv (.int (k : Int)) → Ed (gs X C) (tOp (rIxU (gs X C)) (tOp (rIxU (gs X C)) (tFld X.K (tVar 0) "classes") (tVar j)) (tC (.int 0))) [some v, some vc, some (.ref a), some u, some w, w5] H' (headD gs0 k) := fun j g k vv hg h0 hj dv =>
          ed_op (ed_op (clE sH rfl) (ed_var hj dv) (rd_ixL (atI_nat (by rw [List.getElem?_map, hg]; rfl)))) ed_int (rd_ixL (atI_nat (j := 0) h0))
        refine Evl.s_when (b := !(spk (step c) false (headD gs0 p.1) (headD gs0 p.2) (hf p))) (Evl.et_not (et_B (ed_call (G := gs X C) (dom := m_does_part) (eda_cons (ed_var rfl (h2.mn sH)) (eda_cons (ix 3 g1 p.1 u a1 b1 rfl du) (eda_cons (ix 4 g2 p.2 w a2 b2 rfl dw) (eda_cons (ed_op (doE sH rfl) (ed_tup (eda_cons (ed_var rfl du) (eda_cons (ed_var rfl dw) eda_nil)) (by show 2 ≤ 100000; decide)) (rd_ixD (n := 1) (by decide) (kyd_dP p) (dget_hD (hin p hmp)))) eda_nil)))) ⟨c, _, _, hf p, ok, wf g1 c1 _ e1, wf g2 c2 _ e2, ev p (hin p hmp), rfl, rfl⟩))) (fun hb H3 s3 => ?_) (fun hb H3 s3 => ?_)
        · have hb : spk (step c) false (headD gs0 p.1) (headD gs0 p.2) (hf p) = false := by simpa using hb
          refine (sr_ret (G := gs X C) (ed_bl (σ := [some v, some vc, some (.ref a), some u, some w, w5]))) _ H3 (Same.refl H3) fun v' H4 s4 dv => q v' H4 (s'.trans (Same.trans s3 s4)) ?_
          have : showM c rows gs0 pk hf = false := by
            rw [eM]
            exact List.all_eq_false.mpr ⟨p, hmp, by rw [hb]; decide⟩
          rw [this]; exact dv
        · have hb : spk (step c) false (headD gs0 p.1) (headD gs0 p.2) (hf p) = true := by simpa using hb
          refine ⟨⟨_, _, _, rfl⟩, s'.trans s3, ?_⟩
          rw [take_snoc hp, List.all_append, hall]
          simp [hb]
      · obtain ⟨⟨w3, w4, w5, rfl⟩, s', hall⟩ := p
        rw [List.length_map, List.take_length] at hall
        refine (sr_ret (G := gs X C) (ed_bl (σ := [some v, some vc, some (.ref a), w3, w4, w5]))) _ H' (Same.refl H') fun v' H4 s4 dv => q v' H4 (s'.trans s4) ?_
        rw [eM, hall]; exact dv
end
end K3

set_option Elab.async false
set_option linter.all false
set_option maxRecDepth 100000
set_option maxHeartbeats 1000000
/-! classes(), Chain(..). -/
namespace K3
open PySem PySem.Spec PyProof.Rows L2 He KM
/-! ### the heads of two groups are apart -/
theorem insG_head {T : D → D → Prop} {v : D} : ∀ {gs : List (List D)}, (∀ g ∈ gs, g ≠ []) → ∀ g ∈ insG T v gs, g.headD D.non = v ∨ ∃ g' ∈ gs, g.headD D.non = g'.headD D.non
  | [], _, g, hg => by rw [insG] at hg; rw [List.mem_singleton.mp hg]; exact .inl rfl
  | x :: gs, h, g, hg => by
    rw [insG] at hg
    have hx := h x List.mem_cons_self
    split at hg
    · rcases List.mem_cons.mp hg with z | z
      · right
        refine ⟨x, List.mem_cons_self, ?_⟩
        rw [z]
        cases x with
        | nil => exact absurd rfl hx
        | cons a r => rfl
      · exact .inr ⟨g, List.mem_cons_of_mem _ z, rfl⟩
    · rcases List.mem_cons.mp hg with z | z
      · exact .inr ⟨x, List.mem_cons_self, by rw [z]⟩
      · rcases insG_head (fun y hy => h y (List.mem_cons_of_mem _ hy)) g z with y | ⟨g', h1, h2⟩
        · exact .inl y
        · exact .inr ⟨g', List.mem_cons_of_mem _ h1, h2⟩
theorem insG_pw {T : D → D → Prop} {v : D} : ∀ {gs : List (List D)}, (∀ g ∈ gs, g ≠ []) → gs.Pairwise (fun g g' => ¬ T (g.headD .non) (g'.headD .non)) → (insG T v gs).Pairwise fun g g' => ¬ T (g.headD .non) (g'.headD .non)
  | [], _, _ => by rw [insG]; simp
  | x :: gs, h, p => by
    have hx := h x List.mem_cons_self
    obtain ⟨p1, p2⟩ := List.pairwise_cons.mp p
    have ed : ∀ w : D, x.headD w = x.headD .non := fun w => by
      cases x with
      | nil => exact absurd rfl hx
      | cons a r => rfl
    rw [insG]
    split
    · refine List.pairwise_cons.mpr ⟨fun g hg => ?_, p2⟩
      have := p1 g hg
      cases x with
      | nil => exact absurd rfl hx
      | cons a r => exact this
    · rename_i hn
      rw [ed] at hn
      refine List.pairwise_cons.mpr ⟨fun g hg => ?_, insG_pw (fun y hy => h y (List.mem_cons_of_mem _ hy)) p2⟩
      rcases insG_head (fun y hy => h y (List.mem_cons_of_mem _ hy)) g hg with y | ⟨g', h1, h2⟩
      · rw [y]; exact hn
      · rw [h2]; exact p1 g' h1
theorem cls_pw {T : D → D → Prop} (rows : List D) : (cls T rows).Pairwise fun g g' => ¬ T (g.headD .non) (g'.headD .non) := KM.snoc_ind (P := fun rows => (cls T rows).Pairwise fun g g' => ¬ T (g.headD .non) (g'.headD .non)) List.Pairwise.nil (fun l a ih => by
  rw [cls_snoc]; exact insG_pw (cls_ne l) ih) rows
theorem heads_apart {c : Ch} {rows : List D} {p : Pr} (h : p ∈ prs (clsC c rows).length) : ¬ TwC c (headD (clsC c rows) p.1) (headD (clsC c rows) p.2) := by
  obtain ⟨h1, h2⟩ := mem_prs.mp h
  have := List.pairwise_iff_getElem.mp (cls_pw (T := TwC c) rows) p.1 p.2 (by show p.1 < (clsC c rows).length; omega) h2 h1
  unfold headD
  rw [List.getD_eq_getElem?_getD, List.getD_eq_getElem?_getD, List.getElem?_eq_getElem h2, List.getElem?_eq_getElem (show p.1 < (clsC c rows).length by omega)]
  exact this
/-- the history that the search gives for each pair -/
def IsH (c : Ch) (rows : List D) (hf : Pr → List Ev) : Prop := ∀ p ∈ prs (clsC c rows).length, ∃ n, AptC c n [((headD (clsC c rows) p.1, headD (clsC c rows) p.2), [])] 0 (some (hf p))
theorem headD_rows {c : Ch} {rows : List D} {i : Nat} (h : i < (clsC c rows).length) : headD (clsC c rows) i ∈ rows := by
  obtain ⟨g, _, _, h3, h4⟩ := headD_mem h (cls_ne rows)
  exact cls_sub rows g h3 _ h4
theorem exists_H {c : Ch} {rows : List D} (hr : Rch c rows) : ∃ hf, IsH c rows hf := by
  have key : ∀ p : Pr, ∃ h : List Ev, p ∈ prs (clsC c rows).length → ∃ n, AptC c n [((headD (clsC c rows) p.1, headD (clsC c rows) p.2), [])] 0 (some h) := fun p => by
    by_cases hp : p ∈ prs (clsC c rows).length
    · obtain ⟨h1, h2⟩ := mem_prs.mp hp
      obtain ⟨n, r, A⟩ := apt_all (step := step c) hr.closed (headD_rows (show p.1 < (clsC c rows).length by omega)) (headD_rows h2)
      cases r with
      | none => exact absurd ((apt_tw A).mp rfl) (heads_apart hp)
      | some h => exact ⟨h, fun _ => ⟨n, A⟩⟩
    · exact ⟨[], fun h => absurd h hp⟩
  exact ⟨fun p => Classical.choose (key p), fun p hp => Classical.choose_spec (key p) hp⟩
theorem IsH.ev {c : Ch} {rows : List D} {hf : Pr → List Ev} (h : IsH c rows hf) : ∀ p ∈ prs (clsC c rows).length, ∀ e ∈ hf p, e ∈ evsOf c := fun p hp => by
  obtain ⟨n, A⟩ := h p hp
  exact (A.some_spk (led_start _ _)).2.1
theorem IsH.spk {c : Ch} {rows : List D} {hf : Pr → List Ev} (h : IsH c rows hf) : ∀ p ∈ prs (clsC c rows).length, KM.spk (step c) false (headD (clsC c rows) p.1) (headD (clsC c rows) p.2) (hf p) = true := fun p hp => by
  obtain ⟨n, A⟩ := h p hp
  exact (A.some_spk (led_start _ _)).1
theorem pw_nd {R : Nat → List Pr} {l : List Nat} (h1 : l.Nodup) (h2 : ∀ i ∈ l, (R i).Nodup) (h3 : ∀ i ∈ l, ∀ p ∈ R i, p.1 = i) : (l.flatMap R).Nodup := by
  induction l with
  | nil => simp
  | cons a l ih =>
    obtain ⟨q1, q2⟩ := List.nodup_cons.mp h1
    rw [List.flatMap_cons, List.nodup_append]
    refine ⟨h2 a List.mem_cons_self, ih q2 (fun i hi => h2 i (List.mem_cons_of_mem _ hi)) (fun i hi => h3 i (List.mem_cons_of_mem _ hi)), fun x hx y hy e => ?_⟩
    subst e
    obtain ⟨i, hi, hy'⟩ := List.mem_flatMap.mp hy
    have e1 := h3 a List.mem_cons_self x hx
    have e2 := h3 i (List.mem_cons_of_mem _ hi) x hy'
    exact q1 (by rw [← e1, e2]; exact hi)
theorem prs_nd (n : Nat) : (prs n).Nodup := by
  unfold prs prsTo
  refine pw_nd List.nodup_range (fun i _ => ?_) (fun i _ p hp => ?_)
  · unfold rowP
    exact nodup_mapI (fun a b e => by have := congrArg Prod.snd e; simp at this; omega) List.nodup_range
  · obtain ⟨j, _, rfl⟩ := List.mem_map.mp hp
    rfl
theorem prs_len {n : Nat} (h : n ≤ 60) : (prs n).length ≤ 3600 := by
  have h1 := prsTo_len n n
  have h2 : n * n ≤ 60 * 60 := Nat.mul_le_mul h h
  unfold prs; omega
theorem insG_size {T : D → D → Prop} {v : D} : ∀ gs : List (List D), (insG T v gs).length ≤ gs.length + 1
  | [] => by rw [insG]; simp
  | g :: gs => by
    rw [insG]
    split
    · simp
    · have := insG_size (T := T) (v := v) gs
      simp; omega
theorem cls_size {T : D → D → Prop} (rows : List D) : (cls T rows).length ≤ rows.length := KM.snoc_ind (P := fun rows => (cls T rows).length ≤ rows.length) (Nat.le_refl _) (fun l a ih => by
  rw [cls_snoc, List.length_append]
  have := insG_size (T := T) (v := a) (cls T l)
  simp; omega) rows
theorem pln_hi (h : List Ev) : pln (dHi h) = true := by rw [dHi, pln]; exact plnAll_iff.mpr fun d hd => by obtain ⟨e, _, rfl⟩ := List.mem_map.mp hd; exact pln_kyd (kyd_ev e)
theorem cok_of {c : Ch} {gs : List (List D)} {pk : List Pr} {hf : Pr → List Ev} (wf : ∀ g ∈ gs, ∀ s ∈ g, WfS c s) (hl : gs.length ≤ 1000) (nd : pk.Nodup) (pl : pk.length ≤ 5000) : COk gs (kD pk) (hD pk hf) :=
  ⟨fun g hg => immAll_iff.mpr fun s hs => imm_kyd (wfS_kyd (wf g hg s hs)), fun g hg => plnAll_iff.mpr fun s hs => pln_kyd (wfS_kyd (wf g hg s hs)), hl, fun d hd => by obtain ⟨p, _, rfl⟩ := List.mem_map.mp hd; exact ⟨_, rfl⟩, kyd_kD pk, kD_nd nd, by unfold kD; rw [List.length_map]; omega,
    immAll_iff.mpr fun d hd => by obtain ⟨p, _, rfl⟩ := List.mem_map.mp hd; exact imm_hi _, plnAll_iff.mpr fun d hd => by obtain ⟨p, _, rfl⟩ := List.mem_map.mp hd; exact pln_hi _⟩
def spCl (G : Gs) (CC : Addr) : Sp := fun vs H Q _ => ∃ c rows hf vc, vs = [vc] ∧ OkC c ∧ Rch c rows ∧ rows.length ≤ 60 ∧ IsH c rows hf ∧ DAt G H vc (dCh c) ∧ ∀ v H', Same H H' → CO G CC H' v (clsC c rows) (kD (prs (clsC c rows).length)) (hD (prs (clsC c rows).length) hf) → Q v H'
section
variable {X : Cx} {C CC aS aT : Addr} {H : Hp} {vs : List V} {ds : List D} {r : D}
theorem make_run {G : Gs} {σ : L2.St} {H : Hp} {t : TA} {E : XK} {gs : List (List D)} {ks hs : List D} {Q : VK} (h : EdA G t σ H [lls gs, .dct ks hs]) (ok : COk gs ks hs) (q : ∀ v H1, Same H H1 → CO G CC H1 v gs ks hs → Q v H1) : tMake CC (spCi G CC) [] E t σ H Q :=
  h H (Same.refl H) _ fun vs H1 s1 da x dx hx hdx ne => by
    obtain ⟨v1, v2, rfl, d1, d2⟩ := two_of da
    have s2 : Same H1 (upd (upd H1 dx (.own x)) x (.ins CC dx [])) := (Same.new hdx).mut hx
    exact ⟨x, dx, v1, v2, gs, ks, hs, rfl, upd_same, d1.mn s2, d2.mn s2, ok, fun H' k co => ⟨rfl, q _ H' (s1.trans fun b o hb => k b o (ne_of_none hb hx) (s2 b o hb)) co⟩⟩
theorem p_classes {Q : VK} {E : XK} {Dd : Ends} (hD' : Dd.rt = Q) (h : spCl (gs X C) CC vs H Q E) : t_classes X C CC aS aT (spD (gs X C) m_check) (spD (gs X C) m_listed) (spD (gs X C) m_pairs) (spD (gs X C) m_parting) (spCi (gs X C) CC) Dd (start N_classes vs) H := by
  obtain ⟨c, rows, hf, x, rfl, ok, hr, hl, hH, h_chain, q⟩ := h
  have wfr := hr.wf ok
  have ne := cls_ne (T := TwC c) rows
  have gl : (clsC c rows).length ≤ 60 := Nat.le_trans (cls_size rows) hl
  refine q_drop (G := gs X C) (ed_call (dom := m_check) (eda_cons (ed_var rfl h_chain) eda_nil) ⟨c, rfl, rfl⟩) fun H1 s1 => ?_
  refine q_set (G := gs X C) (ed_call (dom := m_listed) (eda_cons (ed_var rfl (h_chain.mn s1)) eda_nil) ⟨c, rows, ok, hr, hl, rfl, rfl⟩) fun v1 H2 s2 d1 => ?_
  have s12 := s1.trans s2
  have e1 : hD (prs (clsC c rows).length) hf = ((prs (clsC c rows).length).map dP).map fun d => dHi (hf (unP d)) := hD_map _ _
  refine q_setD (G := gs X C) (ks := kD (prs (clsC c rows).length)) (vs := hD (prs (clsC c rows).length) hf) (by
    rw [e1]
    refine edd_list (G := gs X C) (fun d => dHi (hf (unP d))) (n := 1) (by decide) (fun d hd => by obtain ⟨p, _, rfl⟩ := List.mem_map.mp hd; exact ⟨_, rfl⟩) (kyd_kD _) (kD_nd (prs_nd _)) (by unfold kD; rw [List.length_map]; have := prs_len gl; omega) (fun d _ => imm_hi _) (ed_call (dom := m_pairs) (eda_cons (Ed.is (ed_cb (eda_cons (ed_var rfl d1) eda_nil) rc_lenL) (by rw [List.length_map])) eda_nil) ⟨_, gl, rfl, rfl⟩) (by show 3 < 4; decide) (fun d hd y H3 s3 dy => ?_)
    obtain ⟨p, hp, rfl⟩ := List.mem_map.mp hd
    rw [unP_dP]
    obtain ⟨p1, p2⟩ := mem_prs.mp hp
    obtain ⟨g1, a1, b1, c1, f1⟩ := headD_mem (i := p.1) (gs := clsC c rows) (by omega) ne
    obtain ⟨g2, a2, b2, c2, f2⟩ := headD_mem (i := p.2) (gs := clsC c rows) p2 ne
    obtain ⟨n, A⟩ := hH p hp
    have d1 := d1.mn s3
    unfold lls at d1
    refine Ed.is (ed_call (dom := m_parting) (eda_cons (ed_var rfl ((h_chain.mn s12).mn s3)) (eda_cons (ed_op (ed_op (ed_var rfl d1) (ed_op (ed_var rfl dy) ed_int (rd_ixT rfl)) (rd_ixL (atI_nat (by rw [List.getElem?_map, a1]; rfl)))) ed_int (rd_ixL (atI_nat (j := 0) b1))) (eda_cons (ed_op (ed_op (ed_var rfl d1) (ed_op (ed_var rfl dy) ed_int (rd_ixT rfl)) (rd_ixL (atI_nat (by rw [List.getElem?_map, a2]; rfl)))) ed_int (rd_ixL (atI_nat (j := 0) b2))) eda_nil)))
      ⟨c, rows, _, _, n, some (hf p), ok, hr, hl, cls_sub rows g1 c1 _ f1, cls_sub rows g2 c2 _ f2, A, rfl, rfl⟩) rfl) fun p H3 np s3 dd => ?_
  have wfc : ∀ g ∈ clsC c rows, ∀ s ∈ g, WfS c s := fun g hg s hs => wfr s (cls_sub rows g hg s hs)
  show tMake CC _ _ _ _ _ H3 Dd.rt
  rw [hD']
  exact make_run (G := gs X C) (eda_cons (ed_var rfl (d1.mn s3)) (eda_cons (ed_var rfl dd.at) eda_nil)) (cok_of wfc (by omega) (prs_nd _) (by have := prs_len gl; omega)) fun v H4 s4 co => q v H4 (s12.trans (s3.trans s4)) co
/-! ### Chain(..) -/
def spCh (G : Gs) : Sp := fun vs H Q _ => ∃ a dx v1 c, vs = [.ref a, v1, .int (c.folk : Int), .bl c.costly] ∧ OkC c ∧ H a = some (.ins G.C dx []) ∧ DAt G H v1 (.tup (c.rows.map dLk)) ∧
  ∀ H', (∀ b o, b ≠ a → H b = some o → H' b = some o) → H' a = some (.ins G.C dx (cflds v1 (c.folk : Int) c.costly)) → Q .non H'
theorem p_Chain_init (F : Fp X.K C CC aS aT) {Q : VK} {E : XK} {Dd : Ends} (hD' : ∀ σ H', Q .non H' → Dd.nx σ H') (h : spCh (gs X C) vs H Q E) : t_Chain_init X C CC aS aT (spD (gs X C) m_is_link) (spD (gs X C) m_is_integer) Dd (start N_Chain_init vs) H := by
  obtain ⟨a, dx, v1, c, rfl, ok, ha, h1, q⟩ := h
  have h3 := ok.r3
  have hr1 := ok.r1
  have hf1 := ok.f1
  have hf2 := ok.f2
  refine Evl.q_when (b := false) (Evl.et_is (Evl.et_or (a := false) (Evl.et_not (a := true) (et_B (G := gs X C) (ed_isi (ed_var rfl h1) rfl rfl))) fun _ => Evl.et_or (a := false) (Evl.et_is (Evl.et_not (et_test (ed_chain (G := gs X C) ed_int (ed_cb (eda_cons (ed_var rfl h1) eda_nil) rc_lenT) ed_int rd_B0 rd_B0))) ?_) fun _ => Evl.et_not (a := true) (et_B (Ed.is (ed_cb (G := gs X C) (eda_cons (Ed.is (EdN.ed (ed_lcT (G := gs X C) (fun _ => some (.bl true)) (by rw [List.length_map]; omega) (ed_var rfl h1) (imm_rows c) (fun d _ r e => by cases e; rfl) (fun d hd x H1 s1 dx => ?_))) (e := .lst ((c.rows.map fun _ => true).map .bl)) ?_) eda_nil) rc_all) ?_))) rfl) (fun e => by cases e) fun _ H1 s1 => ?_
  · rw [List.length_map, decide_eq_true (by omega), decide_eq_true (by omega)]; rfl
  · obtain ⟨l, hl, rfl⟩ := List.mem_map.mp hd
    refine ct_name rfl et_yes fun r hr => ?_
    cases hr
    exact ed_call (dom := m_is_link) (eda_cons (ed_var rfl dx) eda_nil) ⟨l, ok.ok l hl, rfl, rfl⟩
  · rw [List.filterMap_map, List.map_map]
    congr 1
    show c.rows.filterMap (fun _ => some (D.bl true)) = c.rows.map fun _ => D.bl true
    rw [List.filterMap_eq_map']
  · congr 1
    rw [List.all_map]
    exact List.all_eq_true.mpr fun _ _ => rfl
  · refine Evl.q_when (b := false) (Evl.et_not (a := true) (et_B (G := gs X C) (ed_call (dom := m_is_integer) (eda_cons (ed_var rfl (.int _)) (eda_cons ed_int (eda_cons ed_int eda_nil))) ⟨(c.folk : Int), 1, 2, rfl, by rw [decide_eq_true (by omega), decide_eq_true (by omega)]; rfl⟩))) (fun e => by cases e) fun _ H2 s2 => ?_
    refine Evl.q_when (b := false) (Evl.et_not (a := true) (et_B (G := gs X C) (ed_isi (ed_var rfl (.bl c.costly)) rfl rfl))) (fun e => by cases e) fun _ H3 s3 => ?_
    have s03 : Same H H3 := Same.trans s1 (Same.trans s2 s3)
    have ha3 := s03 a _ ha
    refine ⟨v1, rfl, .ref a, rfl, a, C, dx, [], rfl, ha3, F.cl, F.nRows, by decide, ?_⟩
    refine ⟨.int (c.folk : Int), rfl, .ref a, rfl, a, C, dx, _, rfl, upd_same, F.cl, F.nFolk, by show 1 < 1000; decide, ?_⟩
    refine ⟨.bl c.costly, rfl, .ref a, rfl, a, C, dx, _, rfl, upd_same, F.cl, F.nCostly, by show 2 < 1000; decide, ?_⟩
    refine hD' _ _ (q _ (fun b o n hb => ?_) upd_same)
    rw [upd_ne n, upd_ne n, upd_ne n]
    exact s03 b o hb
end
end K3

set_option Elab.async false
set_option linter.all false
set_option maxRecDepth 100000
set_option maxHeartbeats 1000000
/-! The law's own search: what each def answers. -/
namespace K3
open PySem PySem.Spec PyProof.Rows L2 He KM
section
variable {X : Cx} {C CC aS aT : Addr} {H : Hp} {vs : List V} {ds : List D} {r : D}
theorem p_Lspeaks (hm : m_does_part ds r) (h : DAll (gs X C) H vs ds) : SRet (gs X C) (t_Lspeaks X C CC aS aT (spD (gs X C) m_after_event)) (start N_Lspeaks vs) H r := by
  obtain ⟨c, d, e, hist, ok, wd, we, he, rfl, rfl⟩ := hm
  obtain ⟨x, v1, v2, vh, rfl, h_chain, h_one, h_other, h_hist⟩ := four_of h
  intro Dd H0 s0 q
  have h_chain := h_chain.mn s0
  refine q_set (G := gs X C) ed_bl fun v4 H1 s1 d4 => ?_
  cases d4
  have h_hist := (h_hist.mn s0).mn s1
  unfold dHi at h_hist
  obtain ⟨a, us, rfl, t1, t2⟩ : ∃ a us, vh = .ref a ∧ SqT (gs X C).K H1 a us ∧ DAll (gs X C) H1 us (hist.map dEv) := by
    cases h_hist with
    | tup h1 h2 => exact ⟨_, _, rfl, h1, h2⟩
  refine ⟨.ref a, rfl, a, rfl, ⟨us, t1⟩, for_tup (xs := us) (fun i σ' H' => Same H1 H' ∧ ∃ u1 u2 p w5 w6 w7 s t, σ' = [some x, some u1, some u2, some (.ref a), some (.bl p), w5, w6, w7] ∧ DAt (gs X C) H' u1 s ∧ DAt (gs X C) H' u2 t ∧ WfS c s ∧ WfS c t ∧
    spk (step c) false d e hist = spk (step c) p s t (hist.drop i)) ⟨Same.refl H1, v1, v2, false, none, none, none, d, e, rfl, (h_one.mn s0).mn s1, (h_other.mn s0).mn s1, wd, we, rfl⟩ (fun i σ' H' _ p => p.1.tp t1) (fun i w σ' H' hw p => ?_) (fun σ' H' p => ?_)⟩
  · obtain ⟨s', u1, u2, p, w5, w6, w7, s, t, rfl, du1, du2, ws, wt, eS⟩ := p
    obtain ⟨de, hde, dw⟩ := t2.getV hw
    rw [List.getElem?_map] at hde
    obtain ⟨ev, hev, rfl⟩ := Option.map_eq_some_iff.mp hde
    have hin := he ev (List.mem_of_getElem? hev)
    have eS2 := spk_drop (c := c) (p := p) (s := s) (t := t) hev
    have hc := (h_chain.mn s1).mn s'
    have dw := dw.mn s'
    show tSeq _ _ _ [some x, some u1, some u2, some (.ref a), some (.bl p), some w, w6, w7] H'
    refine Evl.q_when (b := p) (et_B (G := gs X C) (ed_var rfl (.bl p))) (fun hb H4 s4 => ?_) (fun hb H2 s2' => ?_)
    · refine (sr_ret (G := gs X C) (ed_bl (σ := [some x, some u1, some u2, some (.ref a), some (.bl p), some w, w6, w7]))) _ H4 (Same.refl H4) fun v H5 s5 dv => q v H5 (s1.trans (s'.trans (Same.trans s4 s5))) ?_
      rw [eS, eS2, if_pos hb]; exact dv
    · rw [if_neg (by rw [hb]; decide)] at eS2
      have s2 : Same H' H2 := s2'
      have hc := hc.mn s2
      have dw := dw.mn s2
      refine q_asg2 (G := gs X C) (ed_call (dom := m_after_event) (eda_cons (ed_var rfl hc) (eda_cons (ed_var rfl (du1.mn s2)) (eda_cons (ed_var rfl dw) eda_nil))) ⟨c, s, ev, ok, ws, hin, rfl, rfl⟩) fun v6 n1 H3 s3 d6 dn1 => ?_
      refine q_asg2 (G := gs X C) (ed_call (dom := m_after_event) (eda_cons (ed_var rfl (hc.mn s3)) (eda_cons (ed_var rfl ((du2.mn s2).mn s3)) (eda_cons (ed_var rfl (dw.mn s3)) eda_nil))) ⟨c, t, ev, ok, wt, hin, rfl, rfl⟩) fun v7 n2 H4 s4 d7 dn2 => ?_
      have s04 : Same H1 H4 := s'.trans (s2.trans (s3.trans s4))
      refine s_set (G := gs X C) (d := .bl (decide ((step c s ev).1 ≠ (step c t ev).1))) (Ed.is (ed_op (ed_var rfl (d6.mn s4)) (ed_var rfl d7) (rd_ne (cmp_an _ _))) ?_) fun v4 H5 s5 d4 => ?_
      · congr 1
        by_cases hq : (step c s ev).1 = (step c t ev).1
        · rw [decide_eq_true (an_eq.mpr hq), decide_eq_false (fun z => z hq)]; rfl
        · rw [decide_eq_false (fun z => hq (an_eq.mp z)), decide_eq_true hq]; rfl
      · cases d4
        exact ⟨s04.trans s5, n1, n2, _, _, _, _, _, _, rfl, (dn1.mn s4).mn s5, dn2.mn s5, wf_step ok ws hin, wf_step ok wt hin, by rw [eS, eS2]⟩
  · obtain ⟨s', u1, u2, p, w5, w6, w7, s, t, rfl, du1, du2, ws, wt, eS⟩ := p
    have el : us.length = hist.length := by rw [t2.length, List.length_map]
    rw [el, List.drop_length] at eS
    refine (sr_ret (G := gs X C) (ed_var (σ := [some x, some u1, some u2, some (.ref a), some (.bl p), w5, w6, w7]) rfl (.bl p))) _ H' (Same.refl H') fun v H5 s5 dv => q v H5 (s1.trans (s'.trans s5)) ?_
    rw [eS]; exact dv
/-! ### a new list as the answer -/
def spN (G : Gs) (dom : List D → List D → Prop) : Sp := fun vs H Q _ => ∃ ds rs, DAll G H vs ds ∧ dom ds rs ∧ ∀ p us H', H p = none → Same H H' → H' p = some (.lst us) → DAll G H' us rs → Q (.ref p) H'
def m_evN (ds rs : List D) : Prop := ∃ c : Ch, OkC c ∧ ds = [dCh c] ∧ rs = (evsOf c).map dEv
theorem edn_call {G : Gs} {σ : L2.St} {H : Hp} {t : TA} {ds rs : List D} {dom : List D → List D → Prop} {E : XK} (h : EdA G t σ H ds) (hd : dom ds rs) : EdN G (tCall (spN G dom) [] E t) σ H rs := fun H1 s Q q =>
  h H1 s _ fun vs H2 s2 da => ⟨ds, rs, by rw [List.append_nil]; exact da, hd, fun p us H3 n s3 hp dl => q p us H3 (s2.free n) (s2.trans s3) hp dl⟩
theorem p_LevN {Q : VK} {E : XK} {Dd : Ends} (hD' : Dd.rt = Q) (h : spN (gs X C) m_evN vs H Q E) : t_Levents X C CC aS aT Dd (start N_Levents vs) H := by
  obtain ⟨ds, rs, hda, ⟨c, ok, rfl, rfl⟩, q⟩ := h
  obtain ⟨x, rfl, h_chain⟩ := one_of hda
  have hf := ok.f2
  have e : (evsOf c).map dEv = [dEv .tick] ++ ((List.range c.folk).map fun i => dEv (.ask i)) := by
    unfold evsOf
    rw [List.map_cons, List.map_map]; rfl
  rw [e] at q
  have N : EdN (gs X C) (tOp (rAddU (gs X C)) (tLst (tCons (tTup (tCons (tC (.str "tick")) tNil)) tNil)) (tLc (iRng1 (tCons (tProp C (getSp C "folk") [] C8.E0 (tVar 0)) tNil)) (gName 1) tYes (tTup (tCons (tC (.str "ask")) (tCons (tVar 1) tNil))) [1])) (start N_Levents [x]) H ([dEv .tick] ++ ((List.range c.folk).map fun i => dEv (.ask i))) := by
    refine edn_cat (edn_lst (eda_cons (ed_tup (eda_cons ed_str eda_nil) (by show 1 ≤ 100000; decide)) eda_nil) (by show 1 ≤ 100000; decide))
      (ed_lcR (G := gs X C) (n := c.folk) (fun i => dEv (.ask i)) (by omega) (eda_cons (ed_callers (G := gs X C) (ed_var rfl h_chain)) eda_nil) (fun i _ => rfl) (fun i hi H1 s => ?_)) (by simp; omega)
    refine ct_name (r := some (dEv (.ask i))) rfl et_yes fun d e => ?_
    cases e
    exact ed_tup (eda_cons ed_str (eda_cons (ed_var rfl (.int _)) eda_nil)) (by show 2 ≤ 100000; decide)
  exact N H (Same.refl H) Dd.rt fun p us H2 n s hp dl => by rw [hD']; exact q p us H2 n s hp dl
/-! ### the states in order -/
def spLr (G : Gs) : Sp := fun vs H Q _ => ∃ vc c lim, vs = [vc, .int (lim : Nat)] ∧ OkC c ∧ 1 ≤ lim ∧ lim ≤ 60 ∧ DAt G H vc (dCh c) ∧ (∀ H', Same H H' → Q .non H') ∧ ∀ rows p us H', Rch c rows → rows.length ≤ lim → H p = none → Same H H' → LL G H' p us rows → Q (.ref p) H'
/-- ahead of each turn -/
def LW (G : Gs) (H0 : Hp) (x : V) (fl : Addr) (c : Ch) (lim : Nat) (m : Nat) (σ' : L2.St) (H' : Hp) : Prop :=
  ∃ at_ w4 w5 K us, σ' = [some x, some (.int (lim : Nat)), some (.ref fl), some (.int (at_ : Nat)), w4, w5] ∧ Same H0 H' ∧ LL G H' fl us K ∧ m = lim - at_ ∧ at_ ≤ K.length ∧ K.length ≤ lim ∧ (∀ s ∈ K, WfS c s) ∧ ∀ n rows, Bfs (evsOf c) (step c) n K at_ rows → Rch c rows
theorem q_parNE {G : Gs} {σ : L2.St} {H : Hp} {tl te : TE} {z : TS} {Dd : Ends} {ds : List D} {d : D} {i j : Nat} (h1 : EdN G tl σ H ds) (h2 : Ed G te σ H d) (k : ∀ p us v H1, H p = none → Same H H1 → H1 p = some (.lst us) → DAll G H1 us ds → DAt G H1 v d → z Dd ((σ.set i (some (.ref p))).set j (some v)) H1) :
    tSeq (tPar i j (tCons tl (tCons te tNil))) z Dd σ H := h1 H (Same.refl H) _ fun p us H1 n1 s1 hp da => h2 H1 s1 _ fun v H2 s2 dv => ⟨.ref p, v, rfl, k p us v H2 n1 (s1.trans s2) (s2 p _ hp) (da.mn s2) dv⟩
theorem wf_add {c : Ch} {K : List D} {s : D} (h : ∀ y ∈ K, WfS c y) (w : WfS c s) : ∀ y ∈ add K s, WfS c y := fun y hy => by
  rcases mem_add.mp hy with z | z
  · exact h y z
  · rw [z]; exact w
theorem add_len {K : List D} {s : D} : (add K s).length ≤ K.length + 1 := by
  unfold add
  split
  · omega
  · simp
theorem p_Lreached {Q : VK} {E : XK} {Dd : Ends} (hD' : Dd.rt = Q) (h : spLr (gs X C) vs H Q E) : t_Lreached X C CC aS aT (spD (gs X C) m_first_state) (spN (gs X C) m_evN) (spD (gs X C) m_after_event) Dd (start N_Lreached vs) H := by
  obtain ⟨x, c, lim, rfl, ok, l1, l60, hx, qn, qs⟩ := h
  have hf2 := ok.f2
  have evl : (evsOf c).length ≤ 3 := by unfold evsOf; simp; omega
  refine q_parNE (G := gs X C) (edn_lst (eda_cons (ed_call (dom := m_first_state) (eda_cons (ed_var rfl hx) eda_nil) ⟨c, ok, rfl, rfl⟩) eda_nil) (by show 1 ≤ 100000; decide)) ed_int fun fl us v3 H1 nfl s1 hfl da d3 => ?_
  cases d3
  show tSeq (tWhile _ _) _ Dd [some x, some (.int (lim : Nat)), some (.ref fl), some (.int (0 : Nat)), none, none] H1
  refine ⟨LW (gs X C) H x fl c lim, ⟨lim, 0, none, none, [firstS c], us, rfl, s1, ⟨hfl, da⟩, rfl, Nat.zero_le _, l1, fun s hs => by rw [List.mem_singleton.mp hs]; exact wf_firstS ok, fun n rows b => ⟨n, b⟩⟩, fun m σ' H2 p => ?_⟩
  obtain ⟨at_, w4, w5, K, us, rfl, s2, hL, rfl, ha, hk, wf, hB⟩ := p
  refine (et_test (ed_op (G := gs X C) (ed_var (σ := [some x, some (.int (lim : Nat)), some (.ref fl), some (.int (at_ : Nat)), w4, w5]) rfl (.int _)) (ed_cb (eda_cons (ed_var rfl hL.at) eda_nil) rc_lenL) rd_B0)) H2 (Same.refl H2) _ fun H3 s3 => ?_
  have hL3 := hL.mn s3
  have s23 : Same H H3 := Same.trans s2 s3
  by_cases hlt : at_ < K.length
  · rw [decide_eq_true (by omega)]
    refine iteT ⟨fun σ'' H'' => ∃ m', m' < lim - at_ ∧ LW (gs X C) H x fl c lim m' σ'' H'', fun _ _ z => z, ?_⟩
    have hs : K[at_]? = some K[at_] := List.getElem?_eq_getElem hlt
    generalize hse : K[at_] = s at hs
    have ws := wf s (List.mem_of_getElem? hs)
    show tSeq (tFor (iList X.K _) _ _) _ _ [some x, some (.int (lim : Nat)), some (.ref fl), some (.int (at_ : Nat)), w4, w5] H3
    refine (edn_call (G := gs X C) (dom := m_evN) (eda_cons (ed_var (σ := [some x, some (.int (lim : Nat)), some (.ref fl), some (.int (at_ : Nat)), w4, w5]) rfl (hx.mn s23)) eda_nil) ⟨c, ok, rfl, rfl⟩) H3 (Same.refl H3) _ fun ev es H4 nev s4 hev dev => ?_
    have nef : ev ≠ fl := fun e => by rw [e, hL3.1] at nev; cases nev
    refine ⟨ev, rfl, ⟨es, .inl (.inl hev)⟩, for_LS (G := gs X C) (us := es) (ds := (evsOf c).map dEv) (fun j σ' H' => ∃ w4 w5 us', σ' = [some x, some (.int (lim : Nat)), some (.ref fl), some (.int (at_ : Nat)), w4, w5] ∧ Same H H' ∧ LL (gs X C) H' ev es ((evsOf c).map dEv) ∧ LL (gs X C) H' fl us' (((evsOf c).take j).foldl (fun k e => add k (step c s e).2) K) ∧
      (∀ y ∈ ((evsOf c).take j).foldl (fun k e => add k (step c s e).2) K, WfS c y) ∧ (((evsOf c).take j).foldl (fun k e => add k (step c s e).2) K).length ≤ K.length + j) ⟨w4, w5, us, rfl, s23.trans s4, ⟨hev, dev⟩, hL3.mn s4, wf, Nat.le_refl _⟩ (fun j σ H p => by obtain ⟨_, _, _, _, _, h, _⟩ := p; exact ⟨.inl (.inl h.1), h.2⟩) (fun j we de σ' H5 hwe hde dwe p => ?_) (fun σ' H5 p => ?_)⟩
    · obtain ⟨w4, w5, us', rfl, s5, hE5, hK5, wf5, len5⟩ := p
      rw [List.getElem?_map] at hde
      obtain ⟨e, he, rfl⟩ := Option.map_eq_some_iff.mp hde
      have hin := List.mem_of_getElem? he
      have hj : j < (evsOf c).length := (List.getElem?_eq_some_iff.mp he).1
      have eN : ((evsOf c).take (j + 1)).foldl (fun k e => add k (step c s e).2) K = add (((evsOf c).take j).foldl (fun k e => add k (step c s e).2) K) (step c s e).2 := by
        rw [take_snoc he, List.foldl_append]; rfl
      obtain ⟨r0, hpre⟩ := foldl_add_pre (step := step c) ((evsOf c).take j) s K
      have hs5 : (((evsOf c).take j).foldl (fun k e => add k (step c s e).2) K)[at_]? = some s := by
        rw [hpre, List.getElem?_append_left hlt]; exact hs
      generalize ((evsOf c).take j).foldl (fun k e => add k (step c s e).2) K = Kj at hK5 wf5 len5 eN hs5
      have wn := wf_step ok ws hin
      show tSeq _ _ _ [some x, some (.int (lim : Nat)), some (.ref fl), some (.int (at_ : Nat)), some we, w5] H5
      refine q_set (G := gs X C) (d := (step c s e).2) (ed_op (ed_call (dom := m_after_event) (eda_cons (ed_var rfl (hx.mn s5)) (eda_cons (ed_op (ed_var rfl hK5.at) (ed_var rfl (.int _)) (rd_ixL (atI_nat hs5))) (eda_cons (ed_var rfl dwe) eda_nil))) ⟨c, s, e, ok, ws, hin, rfl, rfl⟩) ed_int (rd_ixT rfl)) fun v5 H6 s6 d5 => ?_
      have hK6 := hK5.mn s6
      refine Evl.s_when (b := !decide ((step c s e).2 ∈ Kj)) (et_test (ed_op (G := gs X C) (ed_var rfl d5) (ed_var rfl hK6.at) (rd_niL (n := 3) (m := 3) (by decide) (by decide) (kyd_eqd _ _ (wfS_kyd wn)) (eqdAll_iff.mpr fun y hy => kyd_eqd _ _ (wfS_kyd (wf5 y hy)))))) (fun hb H7 s7 => ?_) (fun hb H7 s7 => ?_)
      · have hb : (step c s e).2 ∉ Kj := by simpa using hb
        have hK7 := hK6.mn s7
        have s57 : Same H5 H7 := Same.trans s6 s7
        refine app_body (G := gs X C) (li := 2) (l := fl) rfl hK7.1 (by rw [hK7.2.length]; omega) (ed_var rfl (d5.mn s7)) fun v H8 s8 dv => ?_
        have hK8 := hK7.mn s8
        have le : Le H8 (upd H8 fl (.lst (us' ++ [v]))) := .wr fun u e f => by rw [hK8.1] at e; cases e; exact f
        have wadd := wf_add wf5 wn
        have eadd : add Kj (step c s e).2 = Kj ++ [(step c s e).2] := by unfold add; rw [if_neg hb]
        refine ⟨_, _, us' ++ [v], rfl, (s5.trans (s57.trans s8)).mut nfl, ⟨by rw [upd_ne nef]; exact (hE5.mn (s57.trans s8)).1, (hE5.mn (s57.trans s8)).2.lm (immAll_evs c) le⟩, ?_, by rw [eN]; exact wadd, by rw [eN]; have := add_len (K := Kj) (s := (step c s e).2); omega⟩
        rw [eN, eadd]
        exact ⟨upd_same, (hK8.2.snoc dv).lm (immAll_kyd (kyd_all (by rw [← eadd]; exact wadd))) le⟩
      · have hb : (step c s e).2 ∈ Kj := by simpa using hb
        have eadd : add Kj (step c s e).2 = Kj := by unfold add; rw [if_pos hb]
        have s57 : Same H5 H7 := Same.trans s6 s7
        exact ⟨_, _, us', rfl, s5.trans s57, hE5.mn s57, by rw [eN, eadd]; exact hK6.mn s7, by rw [eN, eadd]; exact wf5, by rw [eN, eadd]; omega⟩
    · obtain ⟨w4, w5, us', rfl, s5, hE5, hK5, wf5, len5⟩ := p
      rw [List.length_map, List.take_length] at hK5 wf5 len5
      have hB' : ∀ n rows, Bfs (evsOf c) (step c) n (expand (evsOf c) (step c) K s) (at_ + 1) rows → Rch c rows := fun n rows b => hB (n + 1) rows (.next hs b)
      obtain ⟨r0, hpre⟩ := foldl_add_pre (step := step c) (evsOf c) s K
      have hge : K.length ≤ ((evsOf c).foldl (fun k e => add k (step c s e).2) K).length := by rw [hpre, List.length_append]; omega
      show tSeq _ _ _ [some x, some (.int (lim : Nat)), some (.ref fl), some (.int (at_ : Nat)), w4, w5] H5
      refine q_set (G := gs X C) (ed_op (ed_var rfl (.int _)) ed_int rd_add) fun v3 H6 s6 d3 => ?_
      cases d3
      have hK6 := hK5.mn s6
      refine Evl.s_when (b := decide ((lim : Int) < (((evsOf c).foldl (fun k e => add k (step c s e).2) K).length : Int))) (et_test (ed_op (G := gs X C) (ed_cb (eda_cons (ed_var rfl hK6.at) eda_nil) rc_lenL) (ed_var rfl (.int _)) rd_B0)) (fun hb H7 s7 => ?_) (fun hb H7 s7 => ?_)
      · show Dd.rt .non H7
        rw [hD']
        exact qn H7 (s5.trans (Same.trans s6 s7))
      · have hb := of_decide_eq_false hb
        refine ⟨lim - (at_ + 1), by omega, at_ + 1, w4, w5, _, us', rfl, s5.trans (Same.trans s6 s7), hK6.mn s7, rfl, by omega, by omega, wf5, hB'⟩
  · rw [decide_eq_false (by omega)]
    refine iteF ?_
    refine ⟨.ref fl, rfl, ?_⟩
    rw [hD']
    exact qs K fl us H3 (hB 0 K (.done (by omega))) hk nfl s23 hL3
end
end K3

set_option Elab.async false
set_option linter.all false
set_option maxRecDepth 100000
set_option maxHeartbeats 1000000
/-! The law's own search for a parting history. -/
namespace K3
open PySem PySem.Spec PyProof.Rows L2 He KM
section
variable {X : Cx} {C CC aS aT : Addr} {H : Hp} {vs : List V} {ds : List D} {r : D}
/-- dict(pairs) -/
theorem edd_pairs {σ : L2.St} {H : Hp} {tl : TE} {ks hs : List D} {n : Nat} (hn : n ≤ 8) (kk : kydAll n ks = true) (ht : ∀ d ∈ ks, ∃ es, d = .tup es) (nd : ks.Nodup) (hl : ks.length = hs.length) (iv : immAll hs = true) (h : Ed (gs X C) tl σ H (.lst ((ks.zip hs).map fun p => .tup [p.1, p.2]))) :
    EdD (gs X C) (tCB (rDPairs X C) (tCons tl tNil)) σ H ks hs := fun H1 s Q q =>
  h H1 s _ fun v H2 s2 dv => by
    obtain ⟨a, rfl⟩ : ∃ a, v = .ref a := by cases dv; exact ⟨_, rfl⟩
    have kf := fun d (hd : d ∈ ks) => kyd_facts d n (kyd_mem kk hd)
    refine ⟨a, ks, hs, rfl, dv, hl, fun k hk => ⟨(kf k hk).2.1, Nat.le_trans (kf k hk).2.2 hn, ht k hk⟩, ?_, fun p o' xs' hp ok t => ?_⟩
    · have : ∀ l : List D, (∀ d ∈ l, kyd n d = true) → l.Nodup → (l.map key).Nodup := fun l => by
        induction l with
        | nil => intro _ _; exact List.nodup_nil
        | cons x l ih =>
          intro h1 h2
          obtain ⟨a1, a2⟩ := List.nodup_cons.mp h2
          rw [List.map_cons, List.nodup_cons]
          refine ⟨fun hm => ?_, ih (fun d hd => h1 d (List.mem_cons_of_mem _ hd)) a2⟩
          obtain ⟨y, hy, e⟩ := List.mem_map.mp hm
          exact a1 (key_inj y x n n (h1 y (List.mem_cons_of_mem _ hy)) (h1 x List.mem_cons_self) e ▸ hy)
      exact this ks (fun d hd => kyd_mem kk hd) nd
    · have sp : Same H2 (upd H2 p (objO p o')) := .new hp
      exact q p _ (s2.free hp) (s2.trans sp) ⟨o', xs', upd_same, ok, t.mono sp⟩
theorem q_parDN' {σ : L2.St} {H : Hp} {G : Gs} {td tl : TE} {z : TS} {Dd : Ends} {ks vs ds : List D} {i j : Nat} (h1 : EdD G td σ H ks vs) (h2 : EdN G tl σ H ds) (k : ∀ kd ly us H1, H kd = none → H ly = none → kd ≠ ly → Same H H1 → DD G H1 kd ks vs → H1 ly = some (.lst us) → DAll G H1 us ds → z Dd ((σ.set i (some (.ref kd))).set j (some (.ref ly))) H1) :
    tSeq (tPar i j (tCons td (tCons tl tNil))) z Dd σ H := h1 H (Same.refl H) _ fun kd H1 n1 s1 dd => h2 H1 s1 _ fun ly us H2 n2 s2 hl da => ⟨.ref kd, .ref ly, rfl, k kd ly us H2 n1 (s1.free n2) (by
      obtain ⟨o, ho⟩ := dd.some
      exact ne_of_none ho n2) (s1.trans s2) (dd.mn s2) hl da⟩
theorem LL.le {G : Gs} {H : Hp} {l : Addr} {us : List V} {ds : List D} {u : HO} (h : LL G H l us ds) : Le H (upd H l u) := .wr fun o e f => by rw [h.1] at e; cases e; exact f
theorem DD.wl {G : Gs} {H : Hp} {l p : Addr} {us : List V} {ds ks hs : List D} {u : HO} (d : DD G H p ks hs) (h : LL G H l us ds) (i : immAll ks = true) (j : immAll hs = true) : DD G (upd H l u) p ks hs := by
  obtain ⟨o, xs, h1, h2, h3⟩ := d
  have n : p ≠ l := fun e => by rw [e, h.1] at h1; cases h1
  exact ⟨o, xs, by rw [upd_ne n]; exact h1, h2, h3.le h.le i j⟩
theorem LL.wl {G : Gs} {H : Hp} {l b : Addr} {us us' : List V} {ds ds' : List D} {u : HO} (d : LL G H b us' ds') (h : LL G H l us ds) (n : b ≠ l) (i : immAll ds' = true) : LL G (upd H l u) b us' ds' := ⟨by rw [upd_ne n]; exact d.1, d.2.lm i h.le⟩
/-- x = l.pop(0) -/
theorem q_pop0 {G : Gs} {σ : L2.St} {H : Hp} {z : TS} {Dd : Ends} {i j : Nat} {l : Addr} {us : List V} {d : D} {ds : List D} (e : σ[i]? = some (some (.ref l))) (h : LL G H l us (d :: ds)) (im : immAll (d :: ds) = true)
    (k : ∀ v us', Le H (upd H l (.lst us')) → LL G (upd H l (.lst us')) l us' ds → DAt G (upd H l (.lst us')) v d → z Dd (σ.set j (some v)) (upd H l (.lst us'))) : tSeq (tAsg (tBM G.K "list" rPopAt (tVar i) (tCons (tC (.int 0)) tNil)) (gName j)) z Dd σ H := by
  obtain ⟨h1, h2⟩ := h
  cases h2 with
  | @cons v us _ _ dv da =>
    have le : Le H (upd H l (.lst us)) := .wr fun o e f => by rw [h1] at e; cases e; exact f
    rw [immAll, Bool.and_eq_true] at im
    have hix : ixN (v :: us).length 0 = some 0 := by
      unfold ixN
      rw [if_pos (by omega), if_pos (by simp)]; rfl
    refine ⟨.ref l, e, .inl ⟨rfl, _, Evl.sq_of h1⟩, l, v :: us, 0, 0, v, rfl, rfl, h1, by decide, by decide, (ixN_seq hix).1, rfl, ?_⟩
    exact k v us le ⟨upd_same, da.lm im.2 le⟩ (dv.lm im.1 le)
/-- the loop over the events of one pair -/
def AI2 (G : Gs) (H0 : Hp) (x y z : V) (md ql ev : Addr) (es : List V) (w5 : V) (c : Ch) (rows : List D) (m : List Me) (at_ : Nat) (p : D × D) (h : List Ev) (j : Nat) (σ' : L2.St) (H' : Hp) : Prop :=
  ∃ w6 w7 w8 w9 w10 us F, σ' = [some x, some y, some z, some (.ref md), some (.ref ql), some w5, w6, w7, w8, w9, w10] ∧ Same H0 H' ∧ LL G H' ql us (ksM ((m ++ F).drop (at_ + 1))) ∧ LL G H' ev es ((evsOf c).map dEv) ∧ DAt G H' w5 (dPr p) ∧ DD G H' md (ksM (m ++ F)) (hsM (m ++ F)) ∧
    MOk c rows (m ++ F) ∧ scan (step c) p h ((evsOf c).drop j) (m ++ F) = scan (step c) p h (evsOf c) m
def tAB (X : Cx) (C : Addr) : TS := tSeq (tAsg (tCall (spD (gs X C) m_after_event) [] C8.E0 (tCons (tVar 0) (tCons (tOp (rIxU (gs X C)) (tVar 5) (tC (.int 0))) (tCons (tVar 6) tNil)))) (gTup X.K 2 (gCons (gName 7) (gCons (gName 8) gNil))))
  (tSeq (tAsg (tCall (spD (gs X C) m_after_event) [] C8.E0 (tCons (tVar 0) (tCons (tOp (rIxU (gs X C)) (tVar 5) (tC (.int 1))) (tCons (tVar 6) tNil)))) (gTup X.K 2 (gCons (gName 9) (gCons (gName 10) gNil))))
  (tSeq (tIfS (tTest (tOp (rNeU (gs X C)) (tVar 7) (tVar 9)))
  (tRet (tOp (rAddU (gs X C)) (tOp (rIxU (gs X C)) (tVar 3) (tVar 5)) (tTup (tCons (tVar 6) tNil))))
  tNext)
  (tIfS (tTest (tOp (rNiU (gs X C)) (tTup (tCons (tVar 8) (tCons (tVar 10) tNil))) (tVar 3)))
  (tSeq (tAsg (tOp (rAddU (gs X C)) (tOp (rIxU (gs X C)) (tVar 3) (tVar 5)) (tTup (tCons (tVar 6) tNil))) (gSub (tVar 3) (tTup (tCons (tVar 8) (tCons (tVar 10) tNil))) (rDSet X C)))
  (tDrop (tBM X.K "list" rAppend (tVar 4) (tCons (tTup (tCons (tVar 8) (tCons (tVar 10) tNil))) tNil))))
  tNext)))
theorem q_subSet {σ : L2.St} {H : Hp} {te ti : TE} {z : TS} {Dd : Ends} {i : Nat} {a : Addr} {ks hs : List D} {k d : D} {n : Nat} (e : σ[i]? = some (some (.ref a))) (hd : DD (gs X C) H a ks hs) (h1 : Ed (gs X C) te σ H d) (h2 : Ed (gs X C) ti σ H k) (hn : n ≤ 8) (kk : kyd n k = true) (ht : ∃ es, k = .tup es) (hl : ks.length < 100000) (i1 : immAll (dput ks hs k d).1 = true) (i2 : immAll (dput ks hs k d).2 = true)
    (q : ∀ H1 H2, Same H H1 → Wr a H1 H2 → Le H1 H2 → DD (gs X C) H2 a (dput ks hs k d).1 (dput ks hs k d).2 → z Dd σ H2) : tSeq (tAsg te (gSub (tVar i) ti (rDSet X C))) z Dd σ H :=
  h1 H (Same.refl H) _ fun v H1 s1 dv => ⟨.ref a, e, h2 H1 s1 _ fun w H2 s2 dw => (rDSet_dd (Q := fun H3 => z Dd σ H3) (hd.mn (s1.trans s2)) (isK_tup hn ht kk dw) (dv.mn s2) hl i1 i2 fun H3 w3 le dd => q H2 H3 (s1.trans s2) w3 le dd : rDSet X C (.ref a) w v H2 fun H3 => z Dd σ H3)⟩
theorem apart_turn {c : Ch} {rows : List D} {m F : List Me} {at_ : Nat} {H0 H' : Hp} {x y z : V} {md ql ev : Addr} {us es : List V} {w5 we : V} {w7 w8 w9 w10 : Option V} {Dd : Ends} {p : D × D} {h : List Ev} {j : Nat} {e : Ev}
    (ok : OkC c) (hr : Rch c rows) (hl : rows.length ≤ 60) (hx : DAt (gs X C) H0 x (dCh c)) (nmd : H0 md = none) (nql : H0 ql = none) (neq : ev ≠ ql) (hat : at_ < m.length) (hm : (p, h) ∈ m) (he : (evsOf c)[j]? = some e) (dwe : DAt (gs X C) H' we (dEv e))
    (s' : Same H0 H') (hQ : LL (gs X C) H' ql us (ksM ((m ++ F).drop (at_ + 1)))) (hE : LL (gs X C) H' ev es ((evsOf c).map dEv)) (d5 : DAt (gs X C) H' w5 (dPr p)) (dM : DD (gs X C) H' md (ksM (m ++ F)) (hsM (m ++ F))) (mo : MOk c rows (m ++ F))
    (hsc : scan (step c) p h ((evsOf c).drop j) (m ++ F) = scan (step c) p h (evsOf c) m)
    (ret : ∀ q v H2, scan (step c) p h (evsOf c) m = .inl q → Same H0 H2 → DAt (gs X C) H2 v (dHi q) → Dd.rt v H2)
    (nx : ∀ σ2 H2, AI2 (gs X C) H0 x y z md ql ev es w5 c rows m at_ p h (j + 1) σ2 H2 → Dd.nx σ2 H2) :
    tAB X C Dd [some x, some y, some z, some (.ref md), some (.ref ql), some w5, some we, w7, w8, w9, w10] H' := by
  have wfr := hr.wf ok
  have hin := List.mem_of_getElem? he
  have hmA : (p, h) ∈ m ++ F := List.mem_append_left _ hm
  have w1 : WfS c p.1 := wfr _ (mo.a _ hmA)
  have w2 : WfS c p.2 := wfr _ (mo.b _ hmA)
  have hsz := mo.size hl
  have kM := mo.kyd wfr
  have hlen : h.length ≤ 3600 := by
    have : h.length < (m ++ F).length := mo.len _ hmA
    omega
  have lk : ∀ m : List Me, (ksM m).length = m.length := fun m => by unfold ksM; rw [List.length_map]
  have esc := scan_drop (c := c) (m := m ++ F) (p := p) (h := h) he
  have hist : ∀ (a b c' d' : Option V) H2, Same H' H2 → Ed (gs X C) (tOp (rAddU (gs X C)) (tOp (rIxU (gs X C)) (tVar 3) (tVar 5)) (tTup (tCons (tVar 6) tNil))) [some x, some y, some z, some (.ref md), some (.ref ql), some w5, some we, a, b, c', d'] H2 (dHi (h ++ [e])) := fun a b c' d' H2 s2 => by
    rw [dHi_snoc]
    exact ed_op (ed_op (ed_var rfl (dM.mn s2).at) (ed_var rfl (d5.mn s2)) (rd_ixD (n := 4) (by decide) (kyd_pr w1 w2) (dget_ent mo.nd kM hmA))) (ed_tup (eda_cons (ed_var rfl (dwe.mn s2)) eda_nil) (by show 1 ≤ 100000; decide)) (rd_cat (by simp; omega))
  refine q_asg2 (G := gs X C) (ed_call (dom := m_after_event) (eda_cons (ed_var rfl (hx.mn s')) (eda_cons (ed_op (ed_var rfl d5) ed_int (rd_ixT rfl)) (eda_cons (ed_var rfl dwe) eda_nil))) ⟨c, p.1, e, ok, w1, hin, rfl, rfl⟩) fun v7 v8 H2 s2 d7 d8 => ?_
  refine q_asg2 (G := gs X C) (ed_call (dom := m_after_event) (eda_cons (ed_var rfl ((hx.mn s').mn s2)) (eda_cons (ed_op (ed_var rfl (d5.mn s2)) ed_int (rd_ixT rfl)) (eda_cons (ed_var rfl (dwe.mn s2)) eda_nil))) ⟨c, p.2, e, ok, w2, hin, rfl, rfl⟩) fun v9 v10 H3 s3 d9 d10 => ?_
  have s23 : Same H' H3 := s2.trans s3
  show tSeq _ _ _ [some x, some y, some z, some (.ref md), some (.ref ql), some w5, some we, some v7, some v8, some v9, some v10] H3
  refine Evl.q_when (b := decide ((step c p.1 e).1 ≠ (step c p.2 e).1)) (Evl.et_is (et_test (ed_op (G := gs X C) (ed_var rfl (d7.mn s3)) (ed_var rfl d9) (rd_ne (cmp_an _ _)))) ?_) (fun hb H4 s4 => ?_) (fun hb H4 s4 => ?_)
  · by_cases hq : (step c p.1 e).1 = (step c p.2 e).1
    · rw [decide_eq_true (an_eq.mpr hq), decide_eq_false (fun z => z hq)]; rfl
    · rw [decide_eq_false (fun z => hq (an_eq.mp z)), decide_eq_true hq]; rfl
  · have hb := of_decide_eq_true hb
    rw [if_pos hb] at esc
    refine (sr_ret (G := gs X C) (hist _ _ _ _ H4 (Same.trans s23 s4))) _ H4 (Same.refl H4) fun v H5 s5 dv => ret _ v H5 (hsc.symm.trans esc) (s'.trans (s23.trans (Same.trans s4 s5))) dv
  · have hb := of_decide_eq_false hb
    rw [if_neg hb] at esc
    have s24 : Same H' H4 := Same.trans s23 s4
    have d8' := (d8.mn s3).mn s4
    have d10' := d10.mn s4
    generalize hqn : (((step c p.1 e).2, (step c p.2 e).2) : D × D) = qn at esc
    have qa : qn.1 ∈ rows := by rw [← hqn]; exact hr.closed _ (mo.a _ hmA) e hin
    have qb : qn.2 ∈ rows := by rw [← hqn]; exact hr.closed _ (mo.b _ hmA) e hin
    have kq : kyd 4 (dPr qn) = true := kyd_pr (wfr _ qa) (wfr _ qb)
    rw [show (step c p.1 e).2 = qn.1 by rw [← hqn]] at d8'
    rw [show (step c p.2 e).2 = qn.2 by rw [← hqn]] at d10'
    have dM4 := dM.mn s24
    have pairE : ∀ H5, Same H4 H5 → Ed (gs X C) (tTup (tCons (tVar 8) (tCons (tVar 10) tNil))) [some x, some y, some z, some (.ref md), some (.ref ql), some w5, some we, some v7, some v8, some v9, some v10] H5 (dPr qn) := fun H5 s5 =>
      ed_tup (eda_cons (ed_var rfl (d8'.mn s5)) (eda_cons (ed_var rfl (d10'.mn s5)) eda_nil)) (by show 2 ≤ 100000; decide)
    refine Evl.s_when (b := !decide (qn ∈ (m ++ F).map (·.1))) (Evl.et_is (et_test (ed_op (G := gs X C) (pairE H4 (Same.refl H4)) (ed_var rfl dM4.at) (rd_niD (n := 4) (by decide) kq))) ?_) (fun hn H5 s5 => ?_) (fun hn H5 s5 => ?_)
    · have e1 := kix_mem (ks := ksM (m ++ F)) kq kM
      unfold dPr at e1
      rw [e1]
      congr 1
      exact decB mem_ksM
    · have hn : qn ∉ (m ++ F).map (·.1) := by simpa using hn
      have s25 : Same H' H5 := Same.trans s24 s5
      rw [if_neg hn] at esc
      have hnM : dPr qn ∉ ksM (m ++ F) := fun z => hn (mem_ksM.mp z)
      have eput := dput_new (vs := hsM (m ++ F)) (v := dHi (h ++ [e])) kq kM hnM
      have eks : ksM (m ++ F) ++ [dPr qn] = ksM (m ++ (F ++ [(qn, h ++ [e])])) := by rw [← List.append_assoc, ksM_app (m ++ F)]; rfl
      have ehs : hsM (m ++ F) ++ [dHi (h ++ [e])] = hsM (m ++ (F ++ [(qn, h ++ [e])])) := by rw [← List.append_assoc, hsM_app (m ++ F)]; rfl
      rw [eks, ehs] at eput
      have mo2 := mo.add hmA hin qa qb hn
      rw [List.append_assoc] at mo2
      have kM2 := mo2.kyd wfr
      refine q_subSet (X := X) (C := C) (k := dPr qn) (d := dHi (h ++ [e])) (n := 4) rfl (dM.mn s25) (hist _ _ _ _ H5 s25) (pairE H5 s5) (by decide) kq ⟨_, rfl⟩ (by rw [lk]; omega) (by rw [eput]; exact immAll_kyd kM2) (by rw [eput]; exact imm_hsM _) fun H6 H7 s6 w7 le7 dM7 => ?_
      rw [eput] at dM7
      have s26 : Same H' H6 := s25.trans s6
      obtain ⟨om, hom⟩ := (dM.mn s26).some
      have hQ6 := hQ.mn s26
      have hE6 := hE.mn s26
      have kQ : kydAll 4 (ksM ((m ++ F).drop (at_ + 1))) = true := kydAll_iff.mpr fun d hd => by
        obtain ⟨x1, hx1, rfl⟩ := List.mem_map.mp hd
        exact kyd_mem kM (List.mem_map.mpr ⟨x1, List.mem_of_mem_drop hx1, rfl⟩)
      have hQ7 := hQ6.wr w7 le7 (hQ6.ne_dd (dM.mn s26)) (immAll_kyd kQ)
      have hE7 := hE6.wr w7 le7 (hE6.ne_dd (dM.mn s26)) (immAll_evs c)
      have d57 := (d5.mn s26).lm (imm_kyd (kyd_pr w1 w2)) le7
      have d87 := ((d8'.mn s5).mn s6).lm (imm_kyd (wfS_kyd (wfr _ qa))) le7
      have d107 := ((d10'.mn s5).mn s6).lm (imm_kyd (wfS_kyd (wfr _ qb))) le7
      have s07 : Same H0 H7 := w7.same nmd (s'.trans s26)
      have edrop : (m ++ (F ++ [(qn, h ++ [e])])).drop (at_ + 1) = (m ++ F).drop (at_ + 1) ++ [(qn, h ++ [e])] := by
        rw [← List.append_assoc, List.drop_append_of_le_length (by rw [List.length_append]; omega)]
      have kQ2 : immAll (ksM ((m ++ (F ++ [(qn, h ++ [e])])).drop (at_ + 1))) = true := immAll_iff.mpr fun d hd => by
        obtain ⟨x1, hx1, rfl⟩ := List.mem_map.mp hd
        exact imm_kyd (kyd_mem kM2 (List.mem_map.mpr ⟨x1, List.mem_of_mem_drop hx1, rfl⟩))
      refine app_body (G := gs X C) (li := 4) (l := ql) (d := dPr qn) rfl hQ7.1 (by rw [hQ7.2.length, lk, List.length_drop]; omega) (ed_tup (eda_cons (ed_var rfl d87) (eda_cons (ed_var rfl d107) eda_nil)) (by show 2 ≤ 100000; decide)) fun v H8 s8 dv => ?_
      have hQ8 := hQ7.mn s8
      refine nx _ _ ⟨_, _, _, _, _, us ++ [v], F ++ [(qn, h ++ [e])], rfl, (s07.trans s8).mut nql, ⟨upd_same, ?_⟩, (hE7.mn s8).wl hQ8 neq (immAll_evs c), (d57.mn s8).lm (imm_kyd (kyd_pr w1 w2)) hQ8.le, (dM7.mn s8).wl hQ8 (immAll_kyd kM2) (imm_hsM _), mo2, ?_⟩
      · have q2 := hQ8.2.snoc dv
        rw [edrop, ksM_app]
        rw [edrop, ksM_app] at kQ2
        exact q2.lm kQ2 hQ8.le
      · rw [← hsc, esc, List.append_assoc]
    · have hn : qn ∈ (m ++ F).map (·.1) := by simpa using hn
      rw [if_pos hn] at esc
      have s25 : Same H' H5 := Same.trans s24 s5
      exact nx _ H5 ⟨_, _, _, _, _, us, F, rfl, s'.trans s25, hQ.mn s25, hE.mn s25, d5.mn s25, dM.mn s25, mo, by rw [← hsc, esc]⟩
def AW (G : Gs) (H0 : Hp) (x y z : V) (md ql : Addr) (c : Ch) (rows : List D) (res : Option (List Ev)) (n : Nat) (σ' : L2.St) (H' : Hp) : Prop :=
  ∃ w5 w6 w7 w8 w9 w10 us m at_, σ' = [some x, some y, some z, some (.ref md), some (.ref ql), w5, w6, w7, w8, w9, w10] ∧ Same H0 H' ∧ LL G H' ql us (ksM (m.drop at_)) ∧ DD G H' md (ksM m) (hsM m) ∧ MOk c rows m ∧ at_ ≤ m.length ∧ AptC c n m at_ res
theorem p_Lapart (hm : m_parting ds r) (h : DAll (gs X C) H vs ds) : SRet (gs X C) (t_Lapart X C CC aS aT (spN (gs X C) m_evN) (spD (gs X C) m_after_event)) (start N_Lapart vs) H r := by
  obtain ⟨c, rows, d, e, n0, res, ok, hr, hl, hd, he, hA, rfl, rfl⟩ := hm
  obtain ⟨x, y, z, rfl, h_chain, h_one, h_other⟩ := three_of h
  have wfr := hr.wf ok
  have k0 : kyd 4 (dPr (d, e)) = true := kyd_pr (wfr _ hd) (wfr _ he)
  have lk : ∀ m : List Me, (ksM m).length = m.length := fun m => by unfold ksM; rw [List.length_map]
  intro Dd H0 s0 q
  have h_chain := h_chain.mn s0
  have h_one := h_one.mn s0
  have h_other := h_other.mn s0
  have pE : ∀ σ : L2.St, σ = [some x, some y, some z, none, none, none, none, none, none, none, none] → Ed (gs X C) (tTup (tCons (tVar 1) (tCons (tVar 2) tNil))) σ H0 (dPr (d, e)) := fun σ e' => by
    subst e'
    exact ed_tup (eda_cons (ed_var rfl h_one) (eda_cons (ed_var rfl h_other) eda_nil)) (by show 2 ≤ 100000; decide)
  refine q_parDN' (G := gs X C) (edd_pairs (X := X) (C := C) (ks := [dPr (d, e)]) (hs := [dHi []]) (n := 4) (by decide) (by rw [kydAll, k0]; rfl) (fun k hk => by rw [List.mem_singleton.mp hk]; exact ⟨_, rfl⟩) (by simp) rfl (by rw [immAll, imm_hi]; rfl) (EdN.ed (edn_lst (eda_cons (ed_tup (eda_cons (pE _ rfl) (eda_cons (ed_tup eda_nil (by show 0 ≤ 100000; decide)) eda_nil)) (by show 2 ≤ 100000; decide)) eda_nil) (by show 1 ≤ 100000; decide)))) (edn_lst (eda_cons (pE _ rfl) eda_nil) (by show 1 ≤ 100000; decide)) fun md ql us H1 nmd nql nmq s1 dM hql da => ?_
  show tSeq (tWhile _ _) _ _ [some x, some y, some z, some (.ref md), some (.ref ql), none, none, none, none, none, none] H1
  refine ⟨AW (gs X C) H0 x y z md ql c rows res, ⟨n0, none, none, none, none, none, none, us, [((d, e), [])], 0, rfl, s1, ⟨hql, da⟩, dM, ⟨(by simp), (fun x hx => by rw [List.mem_singleton.mp hx]; exact hd), (fun x hx => by rw [List.mem_singleton.mp hx]; exact he), (fun x hx => by rw [List.mem_singleton.mp hx]; intro f hf; cases hf), (fun x hx => by rw [List.mem_singleton.mp hx]; exact Nat.one_pos)⟩, Nat.zero_le _, hA⟩, fun n σ' H4 p => ?_⟩
  obtain ⟨w5, w6, w7, w8, w9, w10, us, m, at_, rfl, s4, hQ, dM, mo, hat, hA⟩ := p
  have kM := mo.kyd wfr
  have kQ : kydAll 4 (ksM (m.drop at_)) = true := kydAll_iff.mpr fun d hd => by
    obtain ⟨x1, hx1, rfl⟩ := List.mem_map.mp hd
    exact kyd_mem kM (List.mem_map.mpr ⟨x1, List.mem_of_mem_drop hx1, rfl⟩)
  have cmpL : CmpOk (.lst (ksM (m.drop at_))) (.lst []) := .inl ⟨⟨5, by decide, by rw [eqd]; exact eqdAll_iff.mpr fun s hs => kyd_eqd _ _ (kyd_mem kQ hs)⟩, ⟨5, by decide, by rw [eqd]; rfl⟩⟩
  refine (Evl.et_is (et_test (ed_op (G := gs X C) (ed_var (σ := [some x, some y, some z, some (.ref md), some (.ref ql), w5, w6, w7, w8, w9, w10]) rfl hQ.at) nil_list (rd_ne cmpL))) (by rw [lst_nil])) H4 (Same.refl H4) _ fun H5 s5 => ?_
  have s45 : Same H0 H5 := Same.trans s4 s5
  by_cases hlt : at_ < m.length
  · have hne : ¬ ksM (m.drop at_) = [] := fun z => by
      have := congrArg List.length z
      rw [lk, List.length_drop] at this
      simp at this; omega
    rw [decide_eq_false hne]
    refine iteT ⟨fun σ'' H'' => ∃ m', m' < n ∧ AW (gs X C) H0 x y z md ql c rows res m' σ'' H'', fun _ _ z => z, ?_⟩
    have hph : m[at_]? = some m[at_] := List.getElem?_eq_getElem hlt
    have edr : m.drop at_ = m[at_] :: m.drop (at_ + 1) := List.drop_eq_getElem_cons hlt
    generalize m[at_] = ph at hph edr
    obtain ⟨p, h⟩ := ph
    have hmem := List.mem_of_getElem? hph
    have w1 : WfS c p.1 := wfr _ (mo.a _ hmem)
    have w2 : WfS c p.2 := wfr _ (mo.b _ hmem)
    have hinv := Apt.inv hA hph
    have hQ5 := hQ.mn s5
    have imQ := immAll_kyd kQ
    rw [edr] at hQ5 imQ
    refine q_pop0 (G := gs X C) rfl hQ5 imQ fun w5 us6 le6 hQ6 d5 => ?_
    have dM6 := (dM.mn s5).wl hQ5 (u := .lst us6) (immAll_kyd kM) (imm_hsM m)
    have s06 : Same H0 (upd H5 ql (.lst us6)) := s45.mut nql
    generalize upd H5 ql (.lst us6) = H6 at le6 hQ6 d5 dM6 s06
    show tFor (iList X.K _) (gName 6) _ _ [some x, some y, some z, some (.ref md), some (.ref ql), some w5, w6, w7, w8, w9, w10] H6
    refine (edn_call (G := gs X C) (dom := m_evN) (eda_cons (ed_var (σ := [some x, some y, some z, some (.ref md), some (.ref ql), some w5, w6, w7, w8, w9, w10]) rfl (h_chain.mn s06)) eda_nil) ⟨c, ok, rfl, rfl⟩) H6 (Same.refl H6) _ fun ev es H7 nev s7 hev dev => ?_
    have neq : ev ≠ ql := fun e => by rw [e, hQ6.1] at nev; cases nev
    refine ⟨ev, rfl, ⟨es, .inl (.inl hev)⟩, for_LS (G := gs X C) (us := es) (ds := (evsOf c).map dEv) (AI2 (gs X C) H0 x y z md ql ev es w5 c rows m at_ p h) ?_ (fun j σ H p => by obtain ⟨_, _, _, _, _, _, _, _, _, _, h, _⟩ := p; exact ⟨.inl (.inl h.1), h.2⟩) (fun j we de σ' H8 hwe hde dwe pp => ?_) (fun σ' H8 pp => ?_)⟩
    · exact ⟨w6, w7, w8, w9, w10, us6, [], rfl, s06.trans s7, by rw [List.append_nil]; exact hQ6.mn s7, ⟨hev, dev⟩, d5.mn s7, by rw [List.append_nil]; exact dM6.mn s7, by rw [List.append_nil]; exact mo, by rw [List.append_nil, List.drop_zero]⟩
    · obtain ⟨w6, w7, w8, w9, w10, us8, F, rfl, s8, hQ8, hE8, d58, dM8, mo8, hsc⟩ := pp
      rw [List.getElem?_map] at hde
      obtain ⟨ee, hee, rfl⟩ := Option.map_eq_some_iff.mp hde
      refine apart_turn (X := X) (C := C) ok hr hl h_chain nmd nql neq hlt hmem hee dwe s8 hQ8 hE8 d58 dM8 mo8 hsc (fun q' v H9 hq s9 dv => ?_) (fun σ2 H9 z => z)
      rcases hinv with ⟨q'', h1, h2⟩ | ⟨n', m', h1, h2, h3⟩
      · rw [h1] at hq; cases hq
        subst h2
        exact q v H9 s9 dv
      · rw [h2] at hq; cases hq
    · obtain ⟨w6, w7, w8, w9, w10, us8, F, rfl, s8, hQ8, hE8, d58, dM8, mo8, hsc⟩ := pp
      rw [List.length_map, List.drop_length] at hsc
      have hsc : Sum.inr (m ++ F) = scan (step c) p h (evsOf c) m := hsc
      rcases hinv with ⟨q'', h1, h2⟩ | ⟨n', m', h1, h2, h3⟩
      · rw [h1] at hsc; cases hsc
      · rw [h2] at hsc
        cases hsc
        exact ⟨n', by omega, some w5, w6, w7, w8, w9, w10, us8, m ++ F, at_ + 1, rfl, s8, hQ8, dM8, mo8, by rw [List.length_append]; omega, h3⟩
  · have hnil : ksM (m.drop at_) = [] := by
      rw [List.drop_of_length_le (by omega)]; rfl
    rw [decide_eq_true hnil]
    refine iteF ?_
    have := Apt.end_ hA (by omega)
    subst this
    exact (sr_ret (G := gs X C) (ed_non (σ := [some x, some y, some z, some (.ref md), some (.ref ql), w5, w6, w7, w8, w9, w10]))) Dd H5 (Same.refl H5) fun v H6 s6 dv => q v H6 (s45.trans s6) dv
end
end K3

set_option Elab.async false
set_option linter.all false
set_option maxRecDepth 100000
set_option maxHeartbeats 1000000
/-! The law's own groups. -/
namespace K3
open PySem PySem.Spec PyProof.Rows L2 He KM
open Classical in
/-- the lists whose heads fit v -/
noncomputable def fit (T : D → D → Prop) (v : D) : List Addr → List (List D) → List Addr
  | a :: as, g :: gs => if T (g.headD v) v then a :: fit T v as gs else fit T v as gs
  | _, _ => []
section
variable {T : D → D → Prop} {v : D}
theorem fit_nil : ∀ {as : List Addr} {gs : List (List D)}, as.length = gs.length → fit T v as gs = [] → ∀ g ∈ gs, ¬ T (g.headD v) v
  | [], [], _, _ => fun g hg => by cases hg
  | a :: as, g :: gs, hl, h => by
    rw [fit] at h
    split at h
    · cases h
    · intro g' hg'
      rcases List.mem_cons.mp hg' with z | z
      · rw [z]; assumption
      · exact fit_nil (by simpa using hl) h g' z
  | [], _ :: _, hl, _ => by simp at hl
  | _ :: _, [], hl, _ => by simp at hl
theorem fit_cons {a : Addr} {r : List Addr} : ∀ {as : List Addr} {gs : List (List D)}, fit T v as gs = a :: r → ∃ (j : Nat) (g : List D), as[j]? = some a ∧ gs[j]? = some g ∧ T (g.headD v) v ∧ ∀ i g', i < j → gs[i]? = some g' → ¬ T (g'.headD v) v
  | [], _, h => by cases h
  | _ :: _, [], h => by cases h
  | b :: as, g :: gs, h => by
    rw [fit] at h
    split at h
    · cases h
      exact ⟨0, g, rfl, rfl, by assumption, fun i g' hi => absurd hi (Nat.not_lt_zero _)⟩
    · rename_i hn
      obtain ⟨j, g', h1, h2, h3, h4⟩ := fit_cons h
      refine ⟨j + 1, g', by simpa using h1, by simpa using h2, h3, fun i g'' hi hg => ?_⟩
      cases i with
      | zero => simp only [List.getElem?_cons_zero, Option.some.injEq] at hg; rw [← hg]; exact hn
      | succ i => exact h4 i g'' (by omega) (by simpa using hg)
open Classical in
theorem fit_snoc {a : Addr} {g : List D} : ∀ {as : List Addr} {gs : List (List D)}, as.length = gs.length → fit T v (as ++ [a]) (gs ++ [g]) = fit T v as gs ++ if T (g.headD v) v then [a] else []
  | [], [], _ => by
    show fit T v [a] [g] = _
    rw [fit]
    split <;> rfl
  | b :: as, h :: gs, hl => by
    rw [List.cons_append, List.cons_append, fit, fit, fit_snoc (as := as) (gs := gs) (by simpa using hl)]
    split <;> simp
  | [], _ :: _, hl => by simp at hl
  | _ :: _, [], hl => by simp at hl
theorem fit_len : ∀ {as : List Addr} {gs : List (List D)}, (fit T v as gs).length ≤ as.length
  | [], _ => by simp [fit]
  | _ :: _, [] => by simp [fit]
  | b :: as, g :: gs => by
    rw [fit]
    have := fit_len (as := as) (gs := gs)
    split <;> simp <;> omega
end
theorem rd_isN {G : Gs} {d : D} : RD2 G rNoneIs d .non (.bl (decide (d = .non))) := fun H u v Q hu hv q => by
  cases hv
  refine ⟨rfl, ?_⟩
  have e : decide (u = V.non) = decide (d = D.non) := by
    cases hu <;> first | (exact decB ⟨fun _ => rfl, fun _ => rfl⟩) | (exact decB ⟨(fun h => by cases h), (fun h => by cases h)⟩)
  rw [e]
  exact q _ H (Same.refl H) (.bl _)
theorem dRes_non {r : Option (List Ev)} : dRes r = .non ↔ r = none := by
  cases r with
  | none => exact ⟨fun _ => rfl, fun _ => rfl⟩
  | some h => exact ⟨(fun e => by cases e), (fun e => by cases e)⟩
def spLg (G : Gs) : Sp := fun vs H Q _ => ∃ vc vr c rows, vs = [vc, vr] ∧ OkC c ∧ Rch c rows ∧ rows.length ≤ 60 ∧ DAt G H vc (dCh c) ∧ DAt G H vr (.lst rows) ∧ ∀ l as H', H l = none → Same H H' → OL G H H' l as (clsC c rows) → Q (.ref l) H'
section
variable {X : Cx} {C CC aS aT : Addr} {H : Hp} {vs : List V} {ds : List D} {r : D}
theorem q_anyE {σ : L2.St} {H : Hp} {te : TE} {z : TS} {Dd : Ends} {i : Nat} {P : V → Hp → Prop} (h : ∀ Q : VK, (∀ v H1, P v H1 → Q v H1) → te σ H Q) (k : ∀ v H1, P v H1 → z Dd (σ.set i (some v)) H1) : tSeq (tAsg te (gName i)) z Dd σ H := h _ k
theorem p_Lgroups {Q : VK} {E : XK} {Dd : Ends} (hD' : Dd.rt = Q) (h : spLg (gs X C) vs H Q E) : t_Lgroups X C CC aS aT (spD (gs X C) m_parting) Dd (start N_Lgroups vs) H := by
  obtain ⟨x, vr, c, rows, rfl, ok, hr, hl, hx, hvr, q⟩ := h
  have wfr := hr.wf ok
  obtain ⟨a1, us1, rfl, hq1, dq1⟩ : ∃ a us, vr = .ref a ∧ SqL (gs X C).K H a us ∧ DAll (gs X C) H us rows := by
    cases hvr with
    | lst h1 h2 => exact ⟨_, _, rfl, h1, h2⟩
  refine q_setN (G := gs X C) (edn_lst eda_nil (by show 0 ≤ 100000; decide)) fun fl us H1 nfl s1 hfl da => ?_
  cases da
  show tSeq (tFor _ _ _) _ Dd [some x, some (.ref a1), some (.ref fl), none, none, none] H1
  refine ⟨.ref a1, rfl, a1, rfl, ⟨us1, s1.ls hq1⟩, for_LS (G := gs X C) (us := us1) (ds := rows) (fun i σ' H' => (∃ w3 w4 w5, σ' = [some x, some (.ref a1), some (.ref fl), w3, w4, w5]) ∧ Same H H' ∧ ∃ as, OL (gs X C) H H' fl as (clsC c (rows.take i))) ⟨⟨none, none, none, rfl⟩, s1, [], ⟨hfl, rfl, List.nodup_nil, (by simp), (fun a ha => by cases ha), (fun j a g ha _ => by simp at ha)⟩⟩ (fun i σ' H' p => ⟨p.2.1.ls hq1, dq1.mn p.2.1⟩) (fun i w s σ' H' hw hs dw p => ?_) (fun σ' H' p => ?_)⟩
  · obtain ⟨⟨w3, w4, w5, rfl⟩, s', as, ol⟩ := p
    have hms := List.mem_of_getElem? hs
    have ws := wfr s hms
    have sub : ∀ g ∈ clsC c (rows.take i), ∀ y ∈ g, y ∈ rows := fun g hg y hy => List.mem_of_mem_take (cls_sub _ g hg y hy)
    have ne : ∀ g ∈ clsC c (rows.take i), g ≠ [] := cls_ne (T := TwC c) (rows.take i)
    have glen : ∀ g ∈ clsC c (rows.take i), g.length ≤ (rows.take i).length := cls_len (T := TwC c) (rows.take i)
    have gsz := cls_size (T := TwC c) (rows.take i)
    rw [List.length_take] at gsz
    have et : clsC c (rows.take (i + 1)) = insG (TwC c) s (clsC c (rows.take i)) := by rw [take_snoc hs]; exact cls_snoc _ _
    have imG : ∀ g ∈ clsC c (rows.take i), immAll g = true := fun g hg => immAll_iff.mpr fun y hy => imm_kyd (wfS_kyd (wfr y (sub g hg y hy)))
    have glen : ∀ g ∈ clsC c (rows.take i), g.length ≤ 60 := fun g hg => by have := glen g hg; rw [List.length_take] at this; omega
    have gsz : (clsC c (rows.take i)).length ≤ 60 := by unfold clsC; omega
    rw [et]
    generalize clsC c (rows.take i) = gs0 at ol sub ne glen imG gsz
    have ims := imm_kyd (wfS_kyd ws)
    show tSeq (tAsg (tLc (iList X.K (tVar 2)) (gName 5) _ (tVar 5) [5]) (gName 4)) _ _ [some x, some (.ref a1), some (.ref fl), some w, w4, w5] H'
    have gather : ∀ Q' : VK, (∀ p H2, H' p = none → Same H' H2 → H2 p = some (.lst ((fit (TwC c) s as gs0).map V.ref)) → Q' (.ref p) H2) → tLc (iList X.K (tVar 2)) (gName 5) (tTest (tOp rNoneIs (tCall (spD (gs X C) m_parting) [] C8.E0 (tCons (tVar 0) (tCons (tOp (rIxU (gs X C)) (tVar 5) (tC (.int 0))) (tCons (tVar 3) tNil)))) (tC .non))) (tVar 5) [5] [some x, some (.ref a1), some (.ref fl), some w, w4, w5] H' Q' := fun Q' q' => by
      refine ⟨.ref fl, rfl, fl, rfl, ⟨_, .inl (.inl ol.at_)⟩, fun p hp => lc_list (xs := as.map V.ref) (fun j H2 => Same H' H2 ∧ H2 p = some (.lst ((fit (TwC c) s (as.take j) (gs0.take j)).map V.ref))) ⟨.new hp, upd_same⟩ (fun j H2 _ z => .inl (.inl (z.1 fl _ ol.at_))) (fun j y H2 hy z => ?_) (fun H2 z => ?_)⟩
      · obtain ⟨s2, e2⟩ := z
        rw [List.getElem?_map] at hy
        obtain ⟨a, ha, rfl⟩ := Option.map_eq_some_iff.mp hy
        have hja : j < as.length := (List.getElem?_eq_some_iff.mp ha).1
        have hjg : j < gs0.length := by rw [← ol.len]; exact hja
        have hg : gs0[j]? = some gs0[j] := List.getElem?_eq_getElem hjg
        generalize gs0[j] = g at hg
        have hgm := List.mem_of_getElem? hg
        obtain ⟨us, hu, du⟩ := (ol.mn s2).get j a g ha hg
        have dg : DAt (gs X C) H2 (.ref a) (.lst g) := .lst (.inl (.inl hu)) du
        have hh : g[0]? = some (g.headD s) := by
          have := ne g hgm
          cases g with
          | nil => exact absurd rfl this
          | cons b r => rfl
        have hhm := head_mem (v := s) (ne g hgm)
        obtain ⟨n, res, A⟩ := apt_all (step := step c) hr.closed (sub g hgm _ hhm) hms
        have hT : res = none ↔ TwC c (g.headD s) s := apt_tw A
        refine ⟨by rfl, ?_⟩
        refine (et_test (ed_op (G := gs X C) (d := dRes res) (ed_call (dom := m_parting) (eda_cons (ed_var (σ := [some x, some (.ref a1), some (.ref fl), some w, w4, some (.ref a)]) rfl ((hx.mn s').mn s2)) (eda_cons (ed_op (ed_var rfl dg) ed_int (rd_ixL (atI_nat (j := 0) hh))) (eda_cons (ed_var rfl (dw.mn s2)) eda_nil))) ⟨c, rows, _, _, n, res, ok, hr, hl, sub g hgm _ hhm, hms, A, rfl, rfl⟩) ed_non rd_isN)) H2 (Same.refl H2) _ fun H3 s3 => ?_
        have e3 := s3 p _ e2
        have hp3 : ∀ (Z : List Addr), H3 p = some (.lst (Z.map V.ref)) → Same H' H3 := fun _ _ => s2.trans s3
        have esn := fit_snoc (T := TwC c) (v := s) (a := a) (g := g) (as := as.take j) (gs := gs0.take j) (by rw [List.length_take, List.length_take]; omega)
        rw [← take_snoc ha, ← take_snoc hg] at esn
        by_cases hq : TwC c (g.headD s) s
        · rw [decide_eq_true (dRes_non.mpr (hT.mpr hq))]
          rw [if_pos hq] at esn
          refine iteT ⟨.ref a, rfl, _, e3, Evl.sz_lt (by rw [List.length_map]; have := fit_len (T := TwC c) (v := s) (as := as.take j) (gs := gs0.take j); rw [List.length_take] at this; have := ol.len; omega), (s2.trans s3).mut hp, ?_⟩
          rw [upd_same, esn, List.map_append]; rfl
        · rw [decide_eq_false (fun z => hq (hT.mp (dRes_non.mp z)))]
          rw [if_neg hq, List.append_nil] at esn
          refine iteF ⟨s2.trans s3, ?_⟩
          rw [esn]; exact e3
      · obtain ⟨s2, e2⟩ := z
        rw [List.length_map, List.take_length, ol.len, List.take_length] at e2
        exact q' p H2 hp s2 e2
    refine q_anyE (P := fun v H2 => ∃ p, v = V.ref p ∧ H' p = none ∧ Same H' H2 ∧ H2 p = some (.lst ((fit (TwC c) s as gs0).map V.ref))) (fun Q' k => gather Q' fun p H2 np s2 hp => k _ H2 ⟨p, rfl, np, s2, hp⟩) fun vv H2 hv => ?_
    obtain ⟨p, rfl, np, s2, hp⟩ := hv
    show tIfS _ _ _ _ [some x, some (.ref a1), some (.ref fl), some w, some (.ref p), w5] H2
    have ol2 := ol.mn s2
    have s02 := s'.trans s2
    have dw2 := dw.mn s2
    cases hfit : fit (TwC c) s as gs0 with
    | nil =>
      rw [hfit] at hp
      have eI := insG_new (T := TwC c) (v := s) (fit_nil ol.len hfit)
      refine q_if2 (b := true) (Evl.et_is (et_test (ed_op (G := gs X C) (ed_var rfl (.lst (ds := []) (.inl (.inl hp)) .nil)) nil_list (rd_eq (.inl ⟨⟨1, by decide, by rw [eqd]; rfl⟩, ⟨1, by decide, by rw [eqd]; rfl⟩⟩)))) (decide_eq_true rfl)) (fun _ H3 s3 => ?_) (fun e => by cases e)
      refine ⟨.ref fl, rfl, .inl ⟨rfl, _, .inl (.inl (s3 fl _ ol2.at_))⟩, ?_⟩
      refine (edn_lst (G := gs X C) (t := tCons (tVar 3) tNil) (σ := [some x, some (.ref a1), some (.ref fl), some w, some (.ref p), w5]) (eda_cons (ed_var rfl (dw2.mn s3)) eda_nil) (by show 1 ≤ 100000; decide)) H3 (Same.refl H3) _ fun q' us H4 nq s4 hq da => ?_
      have ol4 := (ol2.mn s3).mn s4
      have s04 : Same H H3 := s02.trans s3
      have nqa : q' ∉ as := fun hm => by
        obtain ⟨k, hk, ek⟩ := List.mem_iff_getElem.mp hm
        have hk2 : k < gs0.length := by rw [← ol.len]; exact hk
        obtain ⟨us', z, _⟩ := (ol2.mn s3).get k q' _ (by rw [List.getElem?_eq_getElem hk, ek]) (List.getElem?_eq_getElem hk2)
        rw [nq] at z; cases z
      have nql : q' ≠ fl := fun e => by rw [e, (ol2.mn s3).at_] at nq; cases nq
      obtain ⟨o2, le⟩ := ol4.push imG hq da (by rw [immAll, ims]; rfl) nqa nql (s04.free nq)
      refine ⟨fl, as.map V.ref, .ref q', rfl, rfl, ol4.at_, Evl.sz_lt (by rw [List.length_map]; have := ol.len; omega), ⟨_, _, _, rfl⟩, (s04.trans s4).mut nfl, as ++ [q'], ?_⟩
      rw [eI]; exact o2
    | cons a r =>
      rw [hfit] at hp
      obtain ⟨j, g, ha, hg, hT, hn⟩ := fit_cons hfit
      have eI := insG_at (T := TwC c) (v := s) hg hT hn
      have hgm := List.mem_of_getElem? hg
      -- the list of fits is no empty one
      have tst : EdT (tTest (tOp (rEqU (gs X C)) (tVar 4) (tLst tNil))) [some x, some (.ref a1), some (.ref fl), some w, some (.ref p), w5] H2 false := by
        have sub2 : ∀ b ∈ a :: r, ∃ us g', H2 b = some (.lst us) ∧ DAll (gs X C) H2 us g' ∧ g' ∈ gs0 := fun b hb => by
          have hm : b ∈ fit (TwC c) s as gs0 := by rw [hfit]; exact hb
          have key : ∀ (as' : List Addr) (gs' : List (List D)), b ∈ fit (TwC c) s as' gs' → ∃ k : Nat, as'[k]? = some b := fun as' => by
            induction as' with
            | nil => intro gs' h; cases gs' <;> cases h
            | cons y as' ih =>
              intro gs' h
              cases gs' with
              | nil => cases h
              | cons z gs' =>
                rw [fit] at h
                split at h
                · rcases List.mem_cons.mp h with e | e
                  · exact ⟨0, by rw [e]; rfl⟩
                  · obtain ⟨k, hk⟩ := ih gs' e
                    exact ⟨k + 1, by simpa using hk⟩
                · obtain ⟨k, hk⟩ := ih gs' h
                  exact ⟨k + 1, by simpa using hk⟩
          obtain ⟨k, hk⟩ := key as gs0 hm
          have hkl : k < gs0.length := by rw [← ol.len]; exact (List.getElem?_eq_some_iff.mp hk).1
          obtain ⟨us, h1, h2⟩ := ol2.get k b _ hk (List.getElem?_eq_getElem hkl)
          exact ⟨us, _, h1, h2, List.getElem_mem hkl⟩
        have mk : ∀ l : List Addr, (∀ b ∈ l, ∃ us g', H2 b = some (.lst us) ∧ DAll (gs X C) H2 us g' ∧ g' ∈ gs0) → ∃ es : List (List D), DAll (gs X C) H2 (l.map V.ref) (es.map D.lst) ∧ (∀ g' ∈ es, g' ∈ gs0) ∧ es.length = l.length := fun l => by
          induction l with
          | nil => intro _; exact ⟨[], .nil, (fun g' h => by cases h), rfl⟩
          | cons b l ih =>
            intro h
            obtain ⟨us, g', h1, h2, h3⟩ := h b List.mem_cons_self
            obtain ⟨es, k1, k2, k3⟩ := ih fun b' hb' => h b' (List.mem_cons_of_mem _ hb')
            exact ⟨g' :: es, .cons (.lst (.inl (.inl h1)) h2) k1, (fun z hz => by rcases List.mem_cons.mp hz with e | e; rw [e]; exact h3; exact k2 z e), by simp [k3]⟩
        obtain ⟨es, k1, k2, k3⟩ := mk _ sub2
        have wfes : ∀ g' ∈ es, ∀ y ∈ g', WfS c y := fun g' hg' y hy => wfr y (sub g' (k2 g' hg') y hy)
        refine Evl.et_is (et_test (ed_op (G := gs X C) (d := lls es) (ed_var rfl (.lst (.inl (.inl hp)) k1)) (Ed.is nil_list (e := lls []) rfl) (rd_eq (cmp_lls (c := c) wfes (fun g' h => by cases h))))) (decide_eq_false fun z => ?_)
        have := lls_inj.mp z
        rw [this] at k3; simp at k3
      refine q_if2 (b := false) tst (fun e => by cases e) (fun _ H3 s3 => ?_)
      have ol3 := ol2.mn s3
      obtain ⟨us, hu, du⟩ := ol3.get j a g ha hg
      refine ⟨.ref p, rfl, ?_⟩
      refine .inl (.inl ⟨p, (a :: r).map V.ref, 0, .ref a, rfl, rfl, .inl (.inl (s3 p _ hp)), atI_nat (j := 0) rfl, ?_⟩)
      refine ⟨.inl ⟨rfl, us, .inl (.inl hu)⟩, w, rfl, a, us, w, rfl, rfl, hu, Evl.sz_lt (by rw [du.length]; have := glen g hgm; omega), ?_⟩
      obtain ⟨o2, le⟩ := ol3.app imG ha hg hu du (dw2.mn s3) ims
      refine ⟨⟨_, _, _, rfl⟩, (s02.trans s3).mut (ol3.free a (List.mem_of_getElem? ha)), as, ?_⟩
      rw [eI]; exact o2
  · obtain ⟨⟨w3, w4, w5, rfl⟩, s', as, ol⟩ := p
    rw [List.take_length] at ol
    refine ⟨.ref fl, rfl, ?_⟩
    rw [hD']
    exact q fl as H' nfl s' ol
end
end K3

set_option Elab.async false
set_option linter.all false
set_option maxRecDepth 100000
set_option maxHeartbeats 1000000
/-! The law's draws: what each def answers. -/
namespace K3
open PySem PySem.Spec PyProof.Rows L2 He KM
def prims : List Int := [1000003, 1000033, 1000037, 1000039, 1000081, 1000099, 1000117, 1000121, 1000133, 1000151, 1000159, 1000171, 1000183, 1000187, 1000193, 1000199]
def drawI (cell k b : Int) : Int := (cell * 48271 + k * 69621) % (prims.getD (k % 16).toNat 1) % b
def numI (cell k b : Int) : Int :=
  if 0 < (cell - 10 ^ (18 : Int).toNat) / (1009 ^ (k % 24).toNat) then (cell - 10 ^ (18 : Int).toNat) / (1009 ^ (k % 24).toNat) % 1009 % b
  else drawI ((cell % 1000003 + 977 * k) * (cell % 1000003 + 31 * k + 5)) (k % 9 + 1) 999983 % b
theorem numI_lt {cell k b : Int} (h : 0 < b) : 0 ≤ numI cell k b ∧ numI cell k b < b := by
  unfold numI
  split
  · exact ⟨Int.emod_nonneg _ (by omega), Int.emod_lt_of_pos _ h⟩
  · exact ⟨Int.emod_nonneg _ (by omega), Int.emod_lt_of_pos _ h⟩
def m_cell (ds : List D) (r : D) : Prop := ∃ (ns : List Int) (k : Nat), ds = [.lst (ns.map .int), .int (k : Int)] ∧ r = .int (ns.getD k 0)
def m_draw (ds : List D) (r : D) : Prop := ∃ cell k b : Int, 0 < b ∧ ds = [.int cell, .int k, .int b] ∧ r = .int (drawI cell k b)
def m_num (ds : List D) (r : D) : Prop := ∃ cell k b : Int, 0 < b ∧ 1 ≤ k ∧ k ≤ 12 ∧ ds = [.int cell, .int k, .int b] ∧ r = .int (numI cell k b)
theorem rc_int {G : Gs} {i : Int} : RDC G rIntU [.int i] (.int i) := fun H us Q h q => by
  obtain ⟨v, rfl, dv⟩ := one_of h
  cases dv
  exact .inl ⟨i, rfl, q _ H (Same.refl H) (.int _)⟩
theorem cm_r {i j : Int} (h1 : -(2 ^ 64) < j) (h2 : j < 2 ^ 64) : CMul i j := .inr ⟨h1, h2⟩
theorem cm_l {i j : Int} (h1 : -(2 ^ 64) < i) (h2 : i < 2 ^ 64) : CMul i j := .inl ⟨h1, h2⟩
section
variable {X : Cx} {C CC aS aT : Addr} {H : Hp} {vs : List V} {ds : List D} {r : D}
theorem p_Lcell (hm : m_cell ds r) (h : DAll (gs X C) H vs ds) : SRet (gs X C) (t_Lcell_at X C CC aS aT) (start N_Lcell_at vs) H r := by
  obtain ⟨ns, k, rfl, rfl⟩ := hm
  obtain ⟨x, y, rfl, h_s, h_k⟩ := two_of h
  refine sr_when (b := decide ((k : Int) < ((ns.map D.int).length : Int))) (et_test (ed_op (ed_var rfl h_k) (ed_cb (eda_cons (ed_var rfl h_s) eda_nil) rc_lenL) rd_B0)) (fun hb => ?_) (fun hb => ?_)
  · have hb := of_decide_eq_true hb
    rw [List.length_map] at hb
    have hk : k < ns.length := by omega
    refine sr_ret (ed_op (ed_var rfl h_s) (ed_var rfl h_k) (rd_ixL (atI_nat ?_)))
    rw [List.getElem?_map, List.getD_eq_getElem?_getD, List.getElem?_eq_getElem hk]; rfl
  · have hb := of_decide_eq_false hb
    rw [List.length_map] at hb
    have e : ns.getD k 0 = 0 := by rw [List.getD_eq_getElem?_getD, List.getElem?_eq_none (by omega)]; rfl
    rw [e]
    exact sr_ret ed_int
theorem prims_at (k : Int) : (prims.map D.int)[(k % 16).toNat]? = some (.int (prims.getD (k % 16).toNat 1)) ∧ 0 < prims.getD (k % 16).toNat 1 := by
  have h1 : 0 ≤ k % 16 := Int.emod_nonneg _ (by decide)
  have h2 : k % 16 < 16 := Int.emod_lt_of_pos _ (by decide)
  have h3 : (k % 16).toNat < 16 := by omega
  have hl : (k % 16).toNat < prims.length := h3
  constructor
  · rw [List.getElem?_map, List.getD_eq_getElem?_getD, List.getElem?_eq_getElem hl]; rfl
  · have : ∀ n : Nat, n < 16 → 0 < prims.getD n 1 := by decide
    exact this _ h3
theorem p_Ldraw (hm : m_draw ds r) (h : DAll (gs X C) H vs ds) : SRet (gs X C) (t_Ldraw X C CC aS aT) (start N_Ldraw vs) H r := by
  obtain ⟨cell, k, b, hb, rfl, rfl⟩ := hm
  obtain ⟨x, y, z, rfl, h_c, h_k, h_b⟩ := three_of h
  obtain ⟨hp, hpos⟩ := prims_at k
  have h1 : 0 ≤ k % 16 := Int.emod_nonneg _ (by decide)
  refine sr_asg (d := .tup (prims.map .int)) (ed_tup (eda_cons ed_int (eda_cons ed_int (eda_cons ed_int (eda_cons ed_int (eda_cons ed_int (eda_cons ed_int (eda_cons ed_int (eda_cons ed_int (eda_cons ed_int (eda_cons ed_int (eda_cons ed_int (eda_cons ed_int (eda_cons ed_int (eda_cons ed_int (eda_cons ed_int (eda_cons ed_int eda_nil)))))))))))))))) (by show 16 ≤ 100000; decide)) fun vp H1 s1 dp => ?_
  have hat : atI (prims.map D.int) (k % 16) = some (.int (prims.getD (k % 16).toNat 1)) := by
    have := atI_nat (j := (k % 16).toNat) hp
    rw [Int.toNat_of_nonneg h1] at this
    exact this
  exact sr_ret (ed_op (ed_op (ed_cb (eda_cons (ed_op (ed_op (ed_var rfl (h_c.mn s1)) ed_int (rd_mul (cm_r (by decide) (by decide)))) (ed_op (ed_var rfl (h_k.mn s1)) ed_int (rd_mul (cm_r (by decide) (by decide)))) rd_add) eda_nil) rc_int) (ed_op (ed_var rfl dp) (ed_op (ed_cb (eda_cons (ed_var rfl (h_k.mn s1)) eda_nil) rc_int) ed_int (rd_I (f := fun i j => i % j) (by decide))) (rd_ixT hat)) (rd_I (f := fun i j => i % j) hpos)) (ed_var rfl (h_b.mn s1)) (rd_I (f := fun i j => i % j) hb))
theorem pow_lt (n : Nat) (h : n ≤ 24) : (1009 ^ n : Int).natAbs.log2 < 9000 := by
  have e : (1009 ^ n : Int).natAbs = 1009 ^ n := by
    rw [Int.natAbs_pow]; rfl
  rw [e]
  have h1 : (1009 : Nat) ^ n ≤ 1009 ^ 24 := Nat.pow_le_pow_right (by decide) h
  have h2 : (1009 : Nat) ^ 24 < 2 ^ 9000 := Nat.lt_of_lt_of_le (by decide : (1009 : Nat) ^ 24 < 2 ^ 240) (Nat.pow_le_pow_right (by decide) (by decide))
  exact PySem.Flt.log2_lt_of (by decide) (Nat.lt_of_le_of_lt h1 h2)
theorem pow_pos (n : Nat) : (0 : Int) < 1009 ^ n := Int.pow_pos (by decide)
theorem p_Lnumber (hm : m_num ds r) (h : DAll (gs X C) H vs ds) : SRet (gs X C) (t_Lnumber X C CC aS aT (spD (gs X C) m_draw)) (start N_Lnumber vs) H r := by
  obtain ⟨cell, k, b, hb, k1, k12, rfl, rfl⟩ := hm
  obtain ⟨x, y, z, rfl, h_c, h_k, h_b⟩ := three_of h
  have q0 : 0 ≤ k % 24 := Int.emod_nonneg _ (by decide)
  have q1 : k % 24 < 24 := Int.emod_lt_of_pos _ (by decide)
  intro Dd H0 s0 q
  have h_c := h_c.mn s0
  have h_k := h_k.mn s0
  have h_b := h_b.mn s0
  refine q_set (G := gs X C) ed_int fun v3 H1 s1 d3 => ?_
  cases d3
  have hk1 := h_k.mn s1
  cases hk1
  show tSeq (tFor (iRng1 _) _ _) _ Dd [some x, some (.int k), some z, some (.int 1), none, none, none] H1
  refine (ed_op (G := gs X C) (σ := [some x, some (.int k), some z, some (.int 1), none, none, none]) (ed_cb (eda_cons (ed_var rfl (.int k)) eda_nil) rc_int) ed_int (rd_I (f := fun i j => i % j) (by decide))) H1 (Same.refl H1) _ fun vn H2 s2 dn => ?_
  cases dn
  refine ⟨k % 24, rfl, by omega, by omega, for_range (lo := 0) (n := (k % 24).toNat) (fun i σ' H' => Same H1 H' ∧ ∃ w4, σ' = [some x, some (.int k), some z, some (.int (1009 ^ i)), w4, none, none]) ⟨s2, none, rfl⟩ (fun i σ' H' hi p => ?_) (fun σ' H' p => ?_)⟩
  · obtain ⟨s', w4, rfl⟩ := p
    refine s_set (G := gs X C) (σ := [some x, some (.int k), some z, some (.int (1009 ^ i)), some (.int (0 + (i : Int))), none, none]) (i := 3) (ed_op (ed_var rfl (.int _)) ed_int (rd_mul (cm_r (by decide) (by decide)))) fun v H3 s3 dv => ?_
    cases dv
    refine ⟨s'.trans s3, some (.int (0 + (i : Int))), ?_⟩
    rw [Int.pow_succ]; rfl
  · obtain ⟨s', w4, rfl⟩ := p
    have s01 := s1.trans s'
    have hc := h_c.mn s01
    have hbd := h_b.mn s01
    have pp := pow_pos (k % 24).toNat
    refine q_set (G := gs X C) (ed_op (ed_op (ed_var rfl hc) (ed_op ed_int ed_int (rd_I (f := fun i j => i ^ j.toNat) (c := CPow) ⟨by decide, by decide, by decide⟩)) rd_I0) (ed_var rfl (.int _)) (rd_I (f := fun i j => i / j) (c := CDivW) ⟨pp, pow_lt _ (by omega)⟩)) fun v5 H3 s3 d5 => ?_
    show tSeq (tIfS _ _ tNext) _ Dd [some x, some (.int k), some z, some (.int (1009 ^ (k % 24).toNat)), w4, some v5, none] H3
    have hb3 := hbd.mn s3
    refine Evl.q_when (et_test (ed_op (G := gs X C) (ed_var rfl d5) ed_int rd_B0)) (fun hlt H4 s4 => ?_) (fun hlt H4 s4 => ?_)
    · have hlt := of_decide_eq_true hlt
      refine (sr_ret (G := gs X C) (ed_op (ed_op (ed_cb (eda_cons (ed_var (σ := [some x, some (.int k), some z, some (.int (1009 ^ (k % 24).toNat)), w4, some v5, none]) rfl (d5.mn s4)) eda_nil) rc_int) ed_int (rd_I (f := fun i j => i % j) (by decide))) (ed_var rfl (hb3.mn s4)) (rd_I (f := fun i j => i % j) hb))) _ H4 (Same.refl H4) fun v H5 s5 dv => q v H5 (s01.trans (s3.trans (Same.trans s4 s5))) ?_
      have e : numI cell k b = (cell - 10 ^ (18 : Int).toNat) / (1009 ^ (k % 24).toNat) % 1009 % b := if_pos hlt
      rw [e]; exact dv
    · have hlt := of_decide_eq_false hlt
      have s34 : Same H' H4 := Same.trans s3 s4
      refine q_set (G := gs X C) (ed_op (ed_cb (eda_cons (ed_var rfl (hc.mn s34)) eda_nil) rc_int) ed_int (rd_I (f := fun i j => i % j) (by decide))) fun v6 H5 s5 d6 => ?_
      have m0 : 0 ≤ cell % 1000003 := Int.emod_nonneg _ (by decide)
      have m1 : cell % 1000003 < 1000003 := Int.emod_lt_of_pos _ (by decide)
      have n0 : 0 ≤ k % 9 := Int.emod_nonneg _ (by decide)
      refine (sr_ret (G := gs X C) (ed_op (ed_call (dom := m_draw) (eda_cons (ed_op (ed_op (ed_var (σ := [some x, some (.int k), some z, some (.int (1009 ^ (k % 24).toNat)), w4, some v5, some v6]) rfl d6) (ed_op ed_int (ed_var rfl (.int k)) (rd_mul (cm_l (by decide) (by decide)))) rd_add) (ed_op (ed_op (ed_var rfl d6) (ed_op ed_int (ed_var rfl (.int k)) (rd_mul (cm_l (by decide) (by decide)))) rd_add) ed_int rd_add) (rd_mul (cm_l (by omega) (by omega)))) (eda_cons (ed_op (ed_op (ed_cb (eda_cons (ed_var rfl (.int k)) eda_nil) rc_int) ed_int (rd_I (f := fun i j => i % j) (by decide))) ed_int rd_add) (eda_cons ed_int eda_nil))) ⟨_, _, _, by decide, rfl, rfl⟩) (ed_var rfl ((hb3.mn s4).mn s5)) (rd_I (f := fun i j => i % j) hb))) _ H5 (Same.refl H5) fun v H6 s6 dv => q v H6 (s01.trans (s34.trans (s5.trans s6))) ?_
      have e : numI cell k b = drawI ((cell % 1000003 + 977 * k) * (cell % 1000003 + 31 * k + 5)) (k % 9 + 1) 999983 % b := if_neg hlt
      rw [e]; exact dv
end
end K3

set_option Elab.async false
set_option linter.all false
set_option maxRecDepth 100000
set_option maxHeartbeats 1000000
/-! The law's draws that count on: next, pick, link, chain. -/
namespace K3
open PySem PySem.Spec PyProof.Rows L2 He KM
/-- all but the counting list is kept -/
structure SX (dl : Addr) (H H' : Hp) : Prop where
  k : ∀ a o, a ≠ dl → H a = some o → H' a = some o
  l : ∃ us, H dl = some (.lst us)
theorem SX.le {dl : Addr} {H H' : Hp} (s : SX dl H H') : Le H H' := fun a o e f => by
  by_cases q : a = dl
  · subst q
    obtain ⟨us, h⟩ := s.l
    rw [h] at e; cases e; cases f
  · exact s.k a o q e
/-- the counting list: the script, where the reading starts, how many were drawn -/
def Dr (G : Gs) (H : Hp) (dl sa : Addr) : Prop := ∃ (ns : List Int) (by_ n : Nat), H dl = some (.lst [.ref sa, .int (by_ : Int), .int (n : Int)]) ∧ SqL G.K H sa (ns.map V.int) ∧ (sa ≠ dl ∨ ∀ Hx, SqL G.K Hx sa (ns.map V.int))
theorem Dr.mn {G : Gs} {H H' : Hp} {dl sa : Addr} (d : Dr G H dl sa) (s : Same H H') : Dr G H' dl sa := by
  obtain ⟨ns, b, n, h1, h2, h3⟩ := d
  exact ⟨ns, b, n, s dl _ h1, s.ls h2, h3⟩
theorem Dr.lst {G : Gs} {H : Hp} {dl sa : Addr} (d : Dr G H dl sa) : ∃ us, H dl = some (.lst us) := let ⟨_, _, _, h, _⟩ := d; ⟨_, h⟩
theorem SX.refl {dl sa : Addr} {H : Hp} {G : Gs} (d : Dr G H dl sa) : SX dl H H := ⟨fun _ _ _ h => h, d.lst⟩
theorem SX.of {dl sa : Addr} {H H' : Hp} {G : Gs} (d : Dr G H dl sa) (s : Same H H') : SX dl H H' := ⟨fun a o _ h => s a o h, d.lst⟩
theorem SX.tr {dl : Addr} {H H1 H2 : Hp} (a : SX dl H H1) (b : SX dl H1 H2) : SX dl H H2 := ⟨fun x o n h => b.k x o n (a.k x o n h), a.l⟩
theorem SX.same {dl : Addr} {H H' Hb : Hp} (s : SX dl H H') (b : Same Hb H) (n : Hb dl = none) : Same Hb H' := fun a o h => s.k a o (ne_of_none h n) (b a o h)
theorem SX.ls {K : PySem.W.Frag} {dl a : Addr} {H H' : Hp} {xs : List V} (s : SX dl H H') (h : SqL K H a xs) (n : a ≠ dl) : SqL K H' a xs := by
  rcases h with (h | ⟨o, h⟩) | h
  · exact .inl (.inl (s.k a _ n h))
  · exact .inl (.inr ⟨o, s.k a _ n h⟩)
  · exact .inr h
def spNx (G : Gs) : Sp := fun vs H Q _ => ∃ dl sa b, vs = [.ref dl, .int b] ∧ Dr G H dl sa ∧ 0 < b ∧ ∀ r H', 0 ≤ r → r < b → SX dl H H' → Dr G H' dl sa → Q (.int r) H'
def spPk (G : Gs) : Sp := fun vs H Q _ => ∃ dl sa t us, vs = [.ref dl, .ref t] ∧ Dr G H dl sa ∧ SqL G.K H t us ∧ t ≠ dl ∧ us ≠ [] ∧ ∀ (i : Nat) v H', us[i]? = some v → SX dl H H' → Dr G H' dl sa → Q v H'
def spLk (G : Gs) : Sp := fun vs H Q _ => ∃ dl sa, vs = [.ref dl, .int 3] ∧ Dr G H dl sa ∧ ∀ l v H', OkP l.p → SX dl H H' → Dr G H' dl sa → DAt G H' v (dLk l) → Q v H'
def spLc (G : Gs) : Sp := fun vs H Q _ => ∃ dl sa n, vs = [.ref dl, .int 3, .int (n : Nat)] ∧ Dr G H dl sa ∧ 1 ≤ n ∧ n ≤ 2 ∧ ∀ c v H', OkC c → SX dl H H' → Dr G H' dl sa → DAt G H' v (dCh c) → Q v H'
theorem dall_nums {G : Gs} {H : Hp} : ∀ ns : List Int, DAll G H (ns.map V.int) (ns.map D.int)
  | [] => .nil
  | n :: ns => .cons (.int n) (dall_nums ns)
theorem dr_data {G : Gs} {H : Hp} {dl sa : Addr} {ns : List Int} {b n : Nat} (h1 : H dl = some (.lst [.ref sa, .int (b : Int), .int (n : Int)])) (h2 : SqL G.K H sa (ns.map V.int)) : DAt G H (.ref dl) (.lst [.lst (ns.map .int), .int (b : Int), .int (n : Int)]) :=
  .lst (.inl (.inl h1)) (.cons (.lst h2 (dall_nums ns)) (.cons (.int _) (.cons (.int _) .nil)))
section
variable {X : Cx} {C CC aS aT : Addr} {H : Hp} {vs : List V} {ds : List D} {r : D}
theorem p_Lnext {Q : VK} {E : XK} {Dd : Ends} (hD' : Dd.rt = Q) (h : spNx (gs X C) vs H Q E) : t_Lnext X C CC aS aT (spD (gs X C) m_cell) (spD (gs X C) m_num) Dd (start N_Lnext vs) H := by
  obtain ⟨dl, sa, b, rfl, ⟨ns, by_, n, h1, h2, hne⟩, hb, q⟩ := h
  have d0 := dr_data (G := gs X C) h1 h2
  refine (ed_op (G := gs X C) (σ := [some (.ref dl), some (.int b), none, none]) (ed_op (ed_var rfl d0) ed_int (rd_ixL (d := .int (n : Int)) rfl)) ed_int rd_add) H (Same.refl H) _ fun v H1 s1 dv => ?_
  cases dv
  refine ⟨.ref dl, rfl, dl, _, 2, 2, rfl, rfl, s1 dl _ h1, rfl, ?_⟩
  have eset : ([.ref sa, .int (by_ : Int), .int (n : Int)] : List V).set 2 (.int ((n : Int) + 1)) = [.ref sa, .int (by_ : Int), .int ((n + 1 : Nat) : Int)] := rfl
  rw [eset]
  generalize hH2 : upd H1 dl (.lst [.ref sa, .int (by_ : Int), .int ((n + 1 : Nat) : Int)]) = H2
  have e2 : H2 dl = some (.lst [.ref sa, .int (by_ : Int), .int ((n + 1 : Nat) : Int)]) := by rw [← hH2]; exact upd_same
  have sx : SX dl H H2 := ⟨fun a o na ha => by rw [← hH2, upd_ne na]; exact s1 a o ha, ⟨_, h1⟩⟩
  have h22 : SqL (gs X C).K H2 sa (ns.map V.int) := by
    rcases hne with n | k
    · exact sx.ls h2 n
    · exact k H2
  have dr2 : Dr (gs X C) H2 dl sa := ⟨ns, by_, n + 1, e2, h22, hne⟩
  have d2 := dr_data (G := gs X C) e2 h22
  show tSeq _ _ Dd [some (.ref dl), some (.int b), none, none] H2
  refine q_set (G := gs X C) (ed_op (ed_op (ed_var rfl d2) ed_int (rd_ixL (d := .int ((n + 1 : Nat) : Int)) rfl)) ed_int (rd_I (f := fun i j => i / j) (c := CDivW) ⟨by decide, by decide⟩)) fun v2 H3 s3 d3 => ?_
  cases d3
  have ek : (by_ : Int) + ((n + 1 : Nat) : Int) / 12 = ((by_ + (n + 1) / 12 : Nat) : Int) := by
    omega
  refine q_set (G := gs X C) (ed_op (ed_call (dom := m_cell) (eda_cons (ed_op (ed_var rfl (d2.mn s3)) ed_int (rd_ixL (d := .lst (ns.map .int)) rfl)) (eda_cons (Ed.is (ed_op (ed_op (ed_var rfl (d2.mn s3)) ed_int (rd_ixL (d := .int (by_ : Int)) rfl)) (ed_var rfl (.int _)) rd_add) (congrArg D.int ek)) eda_nil)) ⟨ns, _, rfl, rfl⟩) (ed_op ed_int (ed_var rfl (.int _)) (rd_mul (cm_l (by decide) (by decide)))) rd_add) fun v3 H4 s4 d4 => ?_
  cases d4
  have s24 : Same H2 H4 := s3.trans s4
  have m0 : 0 ≤ ((n + 1 : Nat) : Int) % 12 := Int.emod_nonneg _ (by decide)
  have m1 : ((n + 1 : Nat) : Int) % 12 < 12 := Int.emod_lt_of_pos _ (by decide)
  refine (sr_ret (G := gs X C) (ed_call (dom := m_num) (eda_cons (ed_var (σ := [some (.ref dl), some (.int b), some (.int (((n + 1 : Nat) : Int) / 12)), some (.int _)]) rfl (.int _)) (eda_cons (ed_op (ed_op (ed_cb (eda_cons (ed_op (ed_var rfl (d2.mn s24)) ed_int (rd_ixL (d := .int ((n + 1 : Nat) : Int)) rfl)) eda_nil) rc_int) ed_int (rd_I (f := fun i j => i % j) (by decide))) ed_int rd_add) (eda_cons (ed_var rfl (.int b)) eda_nil))) ⟨_, _, b, hb, by omega, by omega, rfl, rfl⟩)) Dd H4 (Same.refl H4) fun v H5 s5 dv => ?_
  cases dv
  rw [hD']
  obtain ⟨l1, l2⟩ := numI_lt (cell := _) (k := _) hb
  exact q _ H5 l1 l2 (sx.tr (SX.of dr2 (s24.trans s5))) (dr2.mn (s24.trans s5))
theorem p_Lpick {Q : VK} {E : XK} {Dd : Ends} (hD' : Dd.rt = Q) (h : spPk (gs X C) vs H Q E) : t_Lpick X C CC aS aT (spNx (gs X C)) Dd (start N_Lpick vs) H := by
  obtain ⟨dl, sa, t, us, rfl, dr, hq, nt, hne, q⟩ := h
  have hpos : 0 < us.length := List.length_pos_iff.mpr hne
  refine ⟨.ref t, rfl, .ref dl, rfl, .ref t, rfl, ?_⟩
  refine .inl ⟨.ref t, us.length, rfl, .inl ⟨us, hq, rfl⟩, ?_⟩
  refine ⟨dl, sa, (us.length : Int), rfl, dr, by omega, fun r H' r0 r1 sx dr' => ?_⟩
  have hlt : r.toNat < us.length := by omega
  have hat : us[r.toNat]? = some us[r.toNat] := List.getElem?_eq_getElem hlt
  refine .inl (.inl ⟨t, us, r, us[r.toNat], rfl, rfl, sx.ls hq nt, ?_, ?_⟩)
  · have := atI_nat hat
    rw [Int.toNat_of_nonneg r0] at this
    exact this
  · rw [hD']
    exact q _ _ H' hat sx dr'
theorem q_next {σ : L2.St} {H : Hp} {Q : VK} {E : XK} {t : TA} {dl sa : Addr} {b : Int} (dr : Dr (gs X C) H dl sa) (hb : 0 < b) (h : ∀ Q' : List V → Hp → Prop, Q' [.ref dl, .int b] H → t σ H Q') (k : ∀ r H', 0 ≤ r → r < b → SX dl H H' → Dr (gs X C) H' dl sa → Q (.int r) H') : tCall (spNx (gs X C)) [] E t σ H Q :=
  h _ ⟨dl, sa, b, rfl, dr, hb, k⟩
end
end K3

set_option Elab.async false
set_option linter.all false
set_option maxRecDepth 100000
set_option maxHeartbeats 1000000
/-! The law's chain. -/
namespace K3
open PySem PySem.Spec PyProof.Rows L2 He KM
section
variable {G : Gs} {σ : L2.St} {H : Hp} {Q : VK} {E : XK} {dl sa : Addr} {b : Int}
theorem run_next {i : Nat} (e : σ[i]? = some (some (.ref dl))) (dr : Dr G H dl sa) (hb : 0 < b) (k : ∀ r H', 0 ≤ r → r < b → SX dl H H' → Dr G H' dl sa → Q (.int r) H') : tCall (spNx G) [] E (tCons (tVar i) (tCons (tC (.int b)) tNil)) σ H Q :=
  ⟨.ref dl, e, dl, sa, b, rfl, dr, hb, k⟩
theorem run_nextV {i j : Nat} (e : σ[i]? = some (some (.ref dl))) (e2 : σ[j]? = some (some (.int b))) (dr : Dr G H dl sa) (hb : 0 < b) (k : ∀ r H', 0 ≤ r → r < b → SX dl H H' → Dr G H' dl sa → Q (.int r) H') : tCall (spNx G) [] E (tCons (tVar i) (tCons (tVar j) tNil)) σ H Q :=
  ⟨.ref dl, e, .int b, e2, dl, sa, b, rfl, dr, hb, k⟩
theorem run_one {te : TE} (h : ∀ Q' : VK, (∀ r H', 0 ≤ r → r < b → SX dl H H' → Dr G H' dl sa → Q' (.int r) H') → te σ H Q') (k : ∀ r H', 1 ≤ r → r ≤ b → SX dl H H' → Dr G H' dl sa → Q (.int r) H') : tOp (rAddU G) (tC (.int 1)) te σ H Q :=
  h _ fun r H' h0 h1 sx dr => .inl (.inl ⟨1, r, rfl, rfl, k _ H' (by omega) (by omega) sx dr⟩)
theorem run_pick {i : Nat} {tl : TE} {ws : List Str} (e : σ[i]? = some (some (.ref dl))) (dr : Dr G H dl sa) (h : EdN G tl σ H (ws.map .str)) (hne : ws ≠ []) (k : ∀ x H', x ∈ ws → SX dl H H' → Dr G H' dl sa → Q (.str x) H') : tCall (spPk G) [] E (tCons (tVar i) (tCons tl tNil)) σ H Q := by
  refine ⟨.ref dl, e, h H (Same.refl H) _ fun t us H1 nt s1 ht da => ?_⟩
  have eus := da.strs
  have ntd : t ≠ dl := fun q => by
    obtain ⟨u, hu⟩ := dr.lst
    rw [q, hu] at nt; cases nt
  refine ⟨dl, sa, t, us, rfl, dr.mn s1, .inl (.inl ht), ntd, fun q => ?_, fun j v H' hj sx dr' => ?_⟩
  · rw [eus] at q
    exact hne (List.map_eq_nil_iff.mp q)
  · rw [eus, List.getElem?_map] at hj
    obtain ⟨x, hx, rfl⟩ := Option.map_eq_some_iff.mp hj
    exact k x H' (List.mem_of_getElem? hx) ((SX.of dr s1).tr sx) dr'
end
section
variable {X : Cx} {C CC aS aT : Addr} {H : Hp} {vs : List V} {ds : List D} {r : D}
theorem p_Llink {Q : VK} {E : XK} {Dd : Ends} (hD' : Dd.rt = Q) (h : spLk (gs X C) vs H Q E) : t_Llink X C CC aS aT (spNx (gs X C)) (spPk (gs X C)) Dd (start N_Llink vs) H := by
  obtain ⟨dl, sa, rfl, dr, q⟩ := h
  refine run_pick (G := gs X C) (ws := ["all", "all", "each"]) (σ := [some (.ref dl), some (.int 3), none, none, none, none]) rfl dr (edn_lst (eda_cons ed_str (eda_cons ed_str (eda_cons ed_str eda_nil))) (by show 3 ≤ 100000; decide)) (by simp) fun sc H1 hsc x1 dr1 => ?_
  refine run_one (G := gs X C) (b := 2) (dl := dl) (sa := sa) (fun Q' k => run_next (G := gs X C) (σ := [some (.ref dl), some (.int 3), none, none, none, none]) rfl dr1 (by decide) k) fun num H2 n1 n2 x2 dr2 => ?_
  refine ⟨_, _, rfl, ?_⟩
  show tSeq _ _ Dd [some (.ref dl), some (.int 3), none, none, some (.str sc), some (.int num)] H2
  refine q_anyE (P := fun v H3 => ∃ sp, v = V.int sp ∧ 1 ≤ sp ∧ sp ≤ 3 ∧ SX dl H2 H3 ∧ Dr (gs X C) H3 dl sa) (fun Q' k => run_one (G := gs X C) (b := 3) (dl := dl) (sa := sa) (fun Q'' k' => run_nextV (G := gs X C) (σ := [some (.ref dl), some (.int 3), none, none, some (.str sc), some (.int num)]) rfl rfl dr2 (by decide) k') fun r H' a1 a2 a3 a4 => k _ H' ⟨r, rfl, a1, a2, a3, a4⟩) fun v H3 hv => ?_
  obtain ⟨sp, rfl, p1, p2, x3, dr3⟩ := hv
  refine q_anyE (P := fun v H4 => ∃ x, v = V.str x ∧ x ∈ (["bucket", "window", "slide", "gap"] : List Str) ∧ SX dl H3 H4 ∧ Dr (gs X C) H4 dl sa) (fun Q' k => run_pick (G := gs X C) (ws := ["bucket", "window", "slide", "gap"]) (σ := [some (.ref dl), some (.int 3), some (.int sp), none, some (.str sc), some (.int num)]) rfl dr3 (edn_lst (eda_cons ed_str (eda_cons ed_str (eda_cons ed_str (eda_cons ed_str eda_nil)))) (by show 4 ≤ 100000; decide)) (by simp) fun x H' a1 a2 a3 => k _ H' ⟨x, rfl, a1, a2, a3⟩) fun v H4 hv => ?_
  obtain ⟨wd, rfl, hwd, x4, dr4⟩ := hv
  have x14 := x1.tr (x2.tr (x3.tr x4))
  have hs : ∃ e : Bool, sc = if e then ("each" : Str) else "all" := by
    simp only [List.mem_cons, List.not_mem_nil, or_false] at hsc
    rcases hsc with h | h | h
    · exact ⟨false, h⟩
    · exact ⟨false, h⟩
    · exact ⟨true, h⟩
  obtain ⟨e, rfl⟩ := hs
  have go : ∀ p : Pt, OkP p → Ed (gs X C) (tIf (tTest (tOp (rEqU (gs X C)) (tVar 3) (tC (.str "gap")))) (tTup (tCons (tVar 3) (tCons (tVar 2) tNil))) (tTup (tCons (tVar 3) (tCons (tVar 5) (tCons (tVar 2) tNil))))) [some (.ref dl), some (.int 3), some (.int sp), some (.str wd), some (.str (if e then ("each" : Str) else "all")), some (.int num)] H4 (dPt p) →
      tRet (tTup (tCons (tVar 4) (tCons (tIf (tTest (tOp (rEqU (gs X C)) (tVar 3) (tC (.str "gap")))) (tTup (tCons (tVar 3) (tCons (tVar 2) tNil))) (tTup (tCons (tVar 3) (tCons (tVar 5) (tCons (tVar 2) tNil))))) tNil))) Dd [some (.ref dl), some (.int 3), some (.int sp), some (.str wd), some (.str (if e then ("each" : Str) else "all")), some (.int num)] H4 := fun p hp hE =>
    sr_ret (G := gs X C) (ed_tup (eda_cons (ed_var rfl (.str _)) (eda_cons hE eda_nil)) (by show 2 ≤ 100000; decide)) Dd H4 (Same.refl H4) fun v H5 s5 dv => by
      rw [hD']
      exact q ⟨e, p⟩ v H5 hp (x14.tr (SX.of dr4 s5)) (dr4.mn s5) dv
  have n3 : ∀ (x : Str), PyData.strOk x = true → x ≠ "gap" → wd = x → Ed (gs X C) (tIf (tTest (tOp (rEqU (gs X C)) (tVar 3) (tC (.str "gap")))) (tTup (tCons (tVar 3) (tCons (tVar 2) tNil))) (tTup (tCons (tVar 3) (tCons (tVar 5) (tCons (tVar 2) tNil))))) [some (.ref dl), some (.int 3), some (.int sp), some (.str wd), some (.str (if e then ("each" : Str) else "all")), some (.int num)] H4 (.tup [.str x, .int num, .int sp]) := fun x hx hn hw => by
    subst hw
    exact ed_if (b := false) (Evl.et_is (et_test (ed_op (ed_var rfl (.str _)) ed_str (rd_eq (cs hx sok_g)))) (str_ne hn)) (fun e => by cases e) (fun _ => ed_tup (eda_cons (ed_var rfl (.str _)) (eda_cons (ed_var rfl (.int _)) (eda_cons (ed_var rfl (.int _)) eda_nil))) (by show 3 ≤ 100000; decide))
  simp only [List.mem_cons, List.not_mem_nil, or_false] at hwd
  rcases hwd with h | h | h | h
  · exact go (.bucket num sp) ⟨n1, by omega, p1, by omega⟩ (n3 _ sok_b ne_bg h)
  · exact go (.window num sp) ⟨n1, by omega, p1, by omega⟩ (n3 _ sok_w ne_wg h)
  · exact go (.slide num sp) ⟨n1, by omega, p1, by omega⟩ (n3 _ sok_s ne_sg h)
  · refine go (.gap sp) ⟨p1, by omega⟩ ?_
    subst h
    exact ed_if (b := true) (Evl.et_is (et_test (ed_op (ed_var rfl (.str _)) ed_str (rd_eq (cs sok_g sok_g)))) str_eq) (fun _ => ed_tup (eda_cons (ed_var rfl (.str _)) (eda_cons (ed_var rfl (.int _)) eda_nil)) (by show 2 ≤ 100000; decide)) (fun e => by cases e)
theorem p_Lchain {Q : VK} {E : XK} {Dd : Ends} (hD' : Dd.rt = Q) (h : spLc (gs X C) vs H Q E) : t_Lchain X C CC aS aT (spNx (gs X C)) (spLk (gs X C)) (spCh (gs X C)) Dd (start N_Lchain vs) H := by
  obtain ⟨dl, sa, n, rfl, dr, hn1, hn2, q⟩ := h
  refine q_anyE (P := fun v H2 => SX dl H H2 ∧ Dr (gs X C) H2 dl sa ∧ ∃ ls : List Lk, DAt (gs X C) H2 v (.tup (ls.map dLk)) ∧ 1 ≤ ls.length ∧ ls.length ≤ 2 ∧ ∀ l ∈ ls, OkP l.p) (fun Q' k => ?_) fun v3 H2 hv => ?_
  · refine run_one (G := gs X C) (b := 2) (dl := dl) (sa := sa) (fun Q'' k' => run_next (G := gs X C) (σ := [some (.ref dl), some (.int 3), some (.int (n : Int)), none, none]) rfl dr (by decide) k') fun m H1 m1 m2 x1 dr1 => ?_
    refine ⟨m, rfl, by omega, by omega, fun l hl => ?_⟩
    have nld : l ≠ dl := fun e => by
      obtain ⟨u, hu⟩ := dr1.lst
      rw [e, hu] at hl; cases hl
    refine lc_range (lo := 0) (n := m.toNat) (fun i H' => SX dl H1 H' ∧ Dr (gs X C) H' dl sa ∧ ∃ acc, ∃ ls : List Lk, H' l = some (.lst acc) ∧ DAll (gs X C) H' acc (ls.map dLk) ∧ ls.length = i ∧ ∀ y ∈ ls, OkP y.p) ⟨SX.of dr1 (.new hl), dr1.mn (.new hl), [], [], upd_same, .nil, rfl, fun y hy => by cases hy⟩ (fun i H' hi p => ?_) (fun H' p => ?_)
    · obtain ⟨sx, dr', acc, ls, a1, a2, a3, a4⟩ := p
      refine ⟨rfl, ?_⟩
      unfold tYes
      refine iteT ⟨.ref dl, rfl, .int 3, rfl, dl, sa, rfl, dr', fun lk v H4 okl sx4 dr4 dv => ?_⟩
      have e4 : H4 l = some (.lst acc) := sx4.k l _ nld a1
      have le : Le H4 (upd H4 l (.lst (acc ++ [v]))) := .wr fun u e f => by rw [e4] at e; cases e; exact f
      have imR : ∀ ls : List Lk, immAll (ls.map dLk) = true := fun ls => immAll_iff.mpr fun d hd => by obtain ⟨y, _, rfl⟩ := List.mem_map.mp hd; exact imm_dLk y
      obtain ⟨ns, b1, b2, c1, c2, c3⟩ := dr4
      have old : (∃ o, H1 sa = some o) ∨ ∃ ms : List Int, ∀ Hx, SqL (gs X C).K Hx sa (ms.map V.int) := by
        obtain ⟨ms, _, _, _, c, _⟩ := dr1
        rcases c with (c | ⟨o, c⟩) | c
        · exact .inl ⟨_, c⟩
        · exact .inl ⟨_, c⟩
        · exact .inr ⟨ms, fun _ => .inr c⟩
      have c2' : ∃ ms : List Int, SqL (gs X C).K (upd H4 l (.lst (acc ++ [v]))) sa (ms.map V.int) ∧ (sa ≠ dl ∨ ∀ Hx, SqL (gs X C).K Hx sa (ms.map V.int)) := by
        rcases old with ⟨o, ho⟩ | ⟨ms, hm⟩
        · have hsl : sa ≠ l := fun e => by rw [e, hl] at ho; cases ho
          refine ⟨ns, ?_, c3⟩
          rcases c2 with (c2 | ⟨o, c2⟩) | c2
          · exact .inl (.inl (by rw [upd_ne hsl]; exact c2))
          · exact .inl (.inr ⟨o, by rw [upd_ne hsl]; exact c2⟩)
          · exact .inr c2
        · exact ⟨ms, hm _, .inr hm⟩
      obtain ⟨ms, c2', c3'⟩ := c2'
      refine ⟨acc, e4, Evl.sz_lt (by rw [a2.length, List.length_map]; omega), ⟨fun a o na ha => ?_, sx.l⟩, ⟨ms, b1, b2, by rw [upd_ne (fun e => nld e.symm)]; exact c1, c2', c3'⟩, acc ++ [v], ls ++ [lk], upd_same, ?_, by simp [a3], fun y hy => ?_⟩
      · rw [upd_ne (ne_of_none ha hl)]
        exact sx4.k a o na (sx.k a o na ha)
      · rw [List.map_append]
        exact ((a2.lm (imR _) sx4.le).snoc dv).lm (by rw [immAll_append, imR]; exact imR [lk]) le
      · rcases List.mem_append.mp hy with z | z
        · exact a4 y z
        · rw [List.mem_singleton.mp z]; exact okl
    · obtain ⟨sx, dr', acc, ls, a1, a2, a3, a4⟩ := p
      refine rc_tupL (G := gs X C) H' [.ref l] _ (.cons (.lst (.inl (.inl a1)) a2) .nil) fun v H5 s5 dv => k v H5 ⟨x1.tr (sx.tr (SX.of dr' s5)), dr'.mn s5, ls, dv, by omega, by omega, a4⟩
  · obtain ⟨x2, dr2, ls, dv, k1, k2, k3⟩ := hv
    refine ⟨v3, rfl, .int (n : Int), rfl, ?_⟩
    refine run_next (G := gs X C) (b := 3) (dl := dl) (sa := sa) (σ := [some (.ref dl), some (.int 3), some (.int (n : Int)), some v3, none]) rfl dr2 (by decide) fun r H3 r0 r1 x3 dr3 => ?_
    refine .inl ⟨rfl, ?_⟩
    generalize decide (V.int r = V.int 0) = cb
    refine ⟨rfl, rfl, fun x dx nx ndx hne => ?_⟩
    have nd : x ≠ dl := fun e => by
      obtain ⟨u, hu⟩ := dr3.lst
      rw [e, hu] at nx; cases nx
    have nd' : dx ≠ dl := fun e => by
      obtain ⟨u, hu⟩ := dr3.lst
      rw [e, hu] at ndx; cases ndx
    have sm : Same H3 (upd (upd H3 dx (.own x)) x (.ins C dx [])) := (Same.new ndx).trans (Same.new (by rw [upd_ne hne.symm]; exact nx))
    have imR : immAll (ls.map dLk) = true := immAll_iff.mpr fun d hd => by obtain ⟨y, _, rfl⟩ := List.mem_map.mp hd; exact imm_dLk y
    have dv4 : DAt (gs X C) (upd (upd H3 dx (.own x)) x (.ins C dx [])) v3 (.tup (ls.map dLk)) := (DAt.le x3.le (d := .tup (ls.map dLk)) (by rw [imm]; exact imR) dv).mn sm
    refine ⟨x, dx, v3, ⟨ls, n, cb⟩, rfl, ⟨k1, by show ls.length ≤ 3; omega, k3, hn1, hn2⟩, upd_same, dv4, fun H' hk hx => ⟨rfl, ?_⟩⟩
    rw [hD']
    have s4 : Same H3 H' := fun a o ha => hk a o (ne_of_none ha nx) (sm a o ha)
    refine q ⟨ls, n, cb⟩ (.ref x) H' ⟨k1, by show ls.length ≤ 3; omega, k3, hn1, hn2⟩ (x2.tr (x3.tr (SX.of dr3 s4))) (dr3.mn s4) (.chn hx ?_)
    exact (DAt.le x3.le (d := .tup (ls.map dLk)) (by rw [imm]; exact imR) dv).mn s4
end
end K3

set_option Elab.async false
set_option linter.all false
set_option maxRecDepth 100000
set_option maxHeartbeats 1000000
/-! What the law of one right answer needs: what shows answers for changed answers. -/
namespace K3
open PySem PySem.Spec PyProof.Rows L2 He KM
section
variable {c : Ch} {rows : List D} {gs0 : List (List D)} {pk : List Pr} {hf : Pr → List Ev}
/-- all pairs, in any order: only the histories count -/
theorem showM_all (hl : pk.length = (prs (clsC c rows).length).length) (hm : ∀ p ∈ prs (clsC c rows).length, p ∈ pk) : showM c rows (clsC c rows) pk hf = (prs (clsC c rows).length).all fun p => spk (step c) false (headD (clsC c rows) p.1) (headD (clsC c rows) p.2) (hf p) := by
  unfold showM
  rw [decide_eq_true rfl, decide_eq_true hl.symm, List.all_eq_true.mpr fun p hp => decide_eq_true (hm p hp)]
  rfl
theorem showM_true (hl : pk.length = (prs (clsC c rows).length).length) (hm : ∀ p ∈ prs (clsC c rows).length, p ∈ pk) (h : IsH c rows hf) : showM c rows (clsC c rows) pk hf = true := by
  rw [showM_all hl hm]
  exact List.all_eq_true.mpr h.spk
theorem showM_len (hl : pk.length ≠ (prs gs0.length).length) : showM c rows gs0 pk hf = false := by
  unfold showM
  have : decide ((prs gs0.length).length = pk.length) = false := decide_eq_false fun e => hl e.symm
  rw [this, Bool.false_and, Bool.and_false, Bool.false_and]
theorem showM_gs (h : gs0 ≠ clsC c rows) : showM c rows gs0 pk hf = false := by
  unfold showM
  rw [decide_eq_false h, Bool.false_and, Bool.false_and]
/-- one history changed: it alone decides -/
theorem showM_bent {q : Pr} {h : List Ev} (hi : IsH c rows hf) (hq : q ∈ prs (clsC c rows).length) (hl : pk.length = (prs (clsC c rows).length).length) (hm : ∀ p ∈ prs (clsC c rows).length, p ∈ pk) :
    showM c rows (clsC c rows) pk (fun p => if p = q then h else hf p) = spk (step c) false (headD (clsC c rows) q.1) (headD (clsC c rows) q.2) h := by
  rw [showM_all hl hm]
  cases hs : spk (step c) false (headD (clsC c rows) q.1) (headD (clsC c rows) q.2) h with
  | true =>
    refine List.all_eq_true.mpr fun p hp => ?_
    by_cases e : p = q
    · subst e; rw [if_pos rfl]; exact hs
    · rw [if_neg e]; exact hi.spk p hp
  | false =>
    refine List.all_eq_false.mpr ⟨q, hq, ?_⟩
    rw [if_pos rfl, hs]; simp
theorem cls_rev (h : 2 ≤ (clsC c rows).length) : (clsC c rows).reverse ≠ clsC c rows := fun e => by
  have h0 : (0, (clsC c rows).length - 1) ∈ prs (clsC c rows).length := mem_prs.mpr ⟨by show 0 < (clsC c rows).length - 1; omega, by show (clsC c rows).length - 1 < (clsC c rows).length; omega⟩
  refine heads_apart h0 ?_
  have e2 : headD (clsC c rows) ((clsC c rows).length - 1) = headD (clsC c rows) 0 := by
    unfold headD
    rw [List.getD_eq_getElem?_getD, List.getD_eq_getElem?_getD]
    have : (clsC c rows)[0]? = (clsC c rows).reverse[0]? := by rw [e]
    rw [this, List.getElem?_reverse (by omega)]
    rfl
  show TwC c (headD (clsC c rows) 0) (headD (clsC c rows) ((clsC c rows).length - 1))
  rw [e2]
  exact Tw.refl _
theorem cls_one (h : 2 ≤ (clsC c rows).length) : [rows] ≠ clsC c rows := fun e => by
  rw [← e] at h
  simp at h
theorem prs_two {n : Nat} (h : prs n ≠ []) : 2 ≤ n := by
  obtain ⟨p, hp⟩ := List.exists_mem_of_ne_nil _ h
  obtain ⟨h1, h2⟩ := mem_prs.mp hp
  omega
theorem prs_one {n : Nat} (h : prs n = []) : n < 2 := by
  by_cases q : n < 2
  · exact q
  · have : (0, 1) ∈ prs n := mem_prs.mpr ⟨by show 0 < 1; omega, by show 1 < n; omega⟩
    rw [h] at this; cases this
end
section
variable {X : Cx} {C CC aS aT : Addr} {H : Hp} {σ : L2.St} {c : Ch} {rows : List D} {gs0 : List (List D)} {pk : List Pr} {hf : Pr → List Ev}
theorem DAll.rev {G : Gs} {H : Hp} : ∀ {ds : List D} {vs : List V}, DAll G H vs ds → DAll G H vs.reverse ds.reverse
  | _, _, .nil => .nil
  | _, _, .cons a b => by
    rw [List.reverse_cons, List.reverse_cons]
    exact (DAll.rev b).snoc a
/-- x.shows(chain) -/
theorem ed_shows {t1 : TE} {k : Nat} {vc : V} (o : SOk c rows gs0 pk hf) (h : ∀ H1, Same H H1 → ∀ Q : VK, (∀ v H2, Same H1 H2 → CO (gs X C) CC H2 v gs0 (kD pk) (hD pk hf) → Q v H2) → t1 σ H1 Q) (e : σ[k]? = some (some vc)) (hc : DAt (gs X C) H vc (dCh c)) :
    Ed (gs X C) (tMeth CC "shows" (spSh (gs X C) CC) [] C8.E0 t1 (tCons (tVar k) tNil)) σ H (.bl (showM c rows gs0 pk hf)) := fun H1 s Q q =>
  h H1 s _ fun v H2 s2 co => by
    have co0 := co
    obtain ⟨a, dx, l, p, rfl, h1, h2, h3⟩ := co
    exact ⟨a, dx, _, rfl, h1, rfl, vc, e, .ref a, vc, c, rows, gs0, pk, hf, rfl, o, co0, hc.mn (s.trans s2), fun v' H' s' d => q v' H' (s2.trans s') d⟩
/-- Classes(x, y).shows(chain) -/
theorem ed_ask {tg td : TE} {k : Nat} {vc : V} (o : SOk c rows gs0 pk hf) (hg : Ed (gs X C) tg σ H (lls gs0)) (hd : Ed (gs X C) td σ H (.dct (kD pk) (hD pk hf))) (e : σ[k]? = some (some vc)) (hc : DAt (gs X C) H vc (dCh c)) :
    Ed (gs X C) (tMeth CC "shows" (spSh (gs X C) CC) [] C8.E0 (tMake CC (spCi (gs X C) CC) [] C8.E0 (tCons tg (tCons td tNil))) (tCons (tVar k) tNil)) σ H (.bl (showM c rows gs0 pk hf)) :=
  ed_shows o (fun H1 s Q q => make_run (G := gs X C) (eda_cons (fun H2 s2 => hg H2 (s.trans s2)) (eda_cons (fun H2 s2 => hd H2 (s.trans s2)) eda_nil)) (cok_of o.wf (by have := o.gl; omega) o.nd o.pl) fun v H2 s2 co => q v H2 s2 co) e hc
/-- list[::-1] -/
theorem ed_rev {te : TE} {ds : List D} (h : Ed (gs X C) te σ H (.lst ds)) : Ed (gs X C) (tRevL X.K te) σ H (.lst ds.reverse) := fun H1 s Q q =>
  h H1 s _ fun v H2 s2 dv => by
    cases dv with
    | lst h1 h2 => exact ⟨_, _, rfl, h1, fun p hp => q _ _ (s2.trans (.new hp)) (.lst (.inl (.inl upd_same)) (DAll.rev (h2.mn (.new hp))))⟩
end
end K3

set_option Elab.async false
set_option linter.all false
set_option maxRecDepth 100000
set_option maxHeartbeats 1000000
/-! The law of one right answer, from its end. -/
namespace K3
open PySem PySem.Spec PyProof.Rows L2 He KM
def tO7 (X : Cx) (C CC : Addr) : TS := (tSeq (tIfS (tOr (tB (tMeth CC "shows" (spSh (gs X C) CC) [] C8.E0 (tMake CC (spCi (gs X C) CC) [] C8.E0 (tCons (tVar 8) (tCons (tVar 14) tNil))) (tCons (tVar 1) tNil))) (tB (tMeth CC "shows" (spSh (gs X C) CC) [] C8.E0 (tMake CC (spCi (gs X C) CC) [] C8.E0 (tCons (tRevL X.K (tVar 8)) (tCons (tCB (rDPairs X C) (tCons (tVar 3) tNil)) tNil))) (tCons (tVar 1) tNil))))
  (tRet (tC (.bl false)))
  tNext)
  (tSeq (tAsg (tCB (rDPairs X C) (tCons (tVar 3) tNil)) (gName 7))
  (tSeq (tAsg (tVar 12) (gSub (tVar 7) (tTup (tCons (tC (.int 0)) (tCons (tCB (rLenU (gs X C)) (tCons (tVar 8) tNil)) tNil))) (rDSet X C)))
  (tSeq (tIfS (tB (tMeth CC "shows" (spSh (gs X C) CC) [] C8.E0 (tMake CC (spCi (gs X C) CC) [] C8.E0 (tCons (tVar 8) (tCons (tVar 7) tNil))) (tCons (tVar 1) tNil)))
  (tRet (tC (.bl false)))
  tNext)
  (tRet (tNotV (tMeth CC "shows" (spSh (gs X C) CC) [] C8.E0 (tMake CC (spCi (gs X C) CC) [] C8.E0 (tCons (tLst (tCons (tVar 2) tNil)) (tCons (tDNew X) tNil))) (tCons (tVar 1) tNil))))))))
def tO6 (X : Cx) (C CC : Addr) : TS := (tSeq (tPar 4 10 (tCons (tOp (rIxU (gs X C)) (tOp (rIxU (gs X C)) (tVar 8) (tOp (rIxU (gs X C)) (tVar 11) (tC (.int 0)))) (tC (.int 0))) (tCons (tOp (rIxU (gs X C)) (tOp (rIxU (gs X C)) (tVar 8) (tOp (rIxU (gs X C)) (tVar 11) (tC (.int 1)))) (tC (.int 0))) tNil)))
  (tSeq (tAsg (tCall (spD (gs X C) m_does_part) [] C8.E0 (tCons (tVar 1) (tCons (tVar 4) (tCons (tVar 10) (tCons (tOp (rIxU (gs X C)) (tVar 13) (tVar 11)) tNil))))) (gName 6))
  (tSeq (tIfS (tTest (tOp (rNeU (gs X C)) (tMeth CC "shows" (spSh (gs X C) CC) [] C8.E0 (tMake CC (spCi (gs X C) CC) [] C8.E0 (tCons (tVar 8) (tCons (tVar 13) tNil))) (tCons (tVar 1) tNil)) (tVar 6)))
  (tRet (tC (.bl false)))
  tNext)
  (tO7 X C CC))))
def tO5 (X : Cx) (C CC : Addr) : TS := (tSeq (tAsg (tCall (spPk (gs X C)) [] C8.E0 (tCons (tVar 0) (tCons (tVar 3) tNil))) (gTup X.K 2 (gCons (gName 11) (gCons (gName 12) gNil))))
  (tSeq (tPar 13 14 (tCons (tCB (rDPairs X C) (tCons (tVar 3) tNil)) (tCons (tCB (rDPairs X C) (tCons (tVar 3) tNil)) tNil)))
  (tSeq (tDrop (tBMD X C (rDPop X C) (tVar 14) (tCons (tVar 11) tNil)))
  (tSeq (tAsg (tLst (tCons (tOp (rAddU (gs X C)) (tTup (tCons (tTup (tCons (tC (.str "tick")) tNil)) tNil)) (tVar 12)) (tCons (tOp (rAddU (gs X C)) (tVar 12) (tTup (tCons (tTup (tCons (tC (.str "ask")) (tCons (tC (.int 0)) tNil))) tNil))) (tCons (tTup (tCons (tTup (tCons (tC (.str "ask")) (tCons (tC (.int 0)) tNil))) tNil)) tNil)))) (gName 5))
  (tSeq (tAsg (tCall (spPk (gs X C)) [] C8.E0 (tCons (tVar 0) (tCons (tOp (rAddU (gs X C)) (tLst (tCons (tSl (rSlU (gs X C)) (tVar 12) tNoPart (tPart (tUn (rU fun i => .int (-i)) (tC (.int 1))))) tNil)) (tVar 5)) tNil))) (gSub (tVar 13) (tVar 11) (rDSet X C)))
  (tO6 X C CC))))))
def tO4 (X : Cx) (C CC : Addr) : TS := (tSeq (tIfS (tTest (tOp (rEqU (gs X C)) (tVar 3) (tLst tNil)))
  (tRet (tNotV (tMeth CC "shows" (spSh (gs X C) CC) [] C8.E0 (tMake CC (spCi (gs X C) CC) [] C8.E0 (tCons (tVar 8) (tCons (tCB (rDPairs X C) (tCons (tLst (tCons (tTup (tCons (tTup (tCons (tC (.int 0)) (tCons (tC (.int 1)) tNil))) (tCons (tTup (tCons (tTup (tCons (tC (.str "ask")) (tCons (tC (.int 0)) tNil))) tNil)) tNil))) tNil)) tNil)) tNil))) (tCons (tVar 1) tNil))))
  tNext)
  (tO5 X C CC))
def tO3 (X : Cx) (C CC : Addr) : TS := (tSeq (tIfS (tOr (tTest (tOp (rNeU (gs X C)) (fun σ H Q => (tFld X.K (tVar 9) "doubts") σ H fun x H1 => rDItems X C x H1 Q) (tVar 3))) (tNot (tB (tMeth CC "shows" (spSh (gs X C) CC) [] C8.E0 (tMake CC (spCi (gs X C) CC) [] C8.E0 (tCons (tVar 8) (tCons (tCB (rDPairs X C) (tCons (tRevL X.K (tVar 3)) tNil)) tNil))) (tCons (tVar 1) tNil)))))
  (tRet (tC (.bl false)))
  tNext)
  (tO4 X C CC))
def dueL (pk : List Pr) (hf : Pr → List Ev) : List D := pk.map fun p => .tup [dP p, dHi (hf p)]
theorem due_zip : ∀ (pk : List Pr) (hf : Pr → List Ev), ((kD pk).zip (hD pk hf)).map (fun p => D.tup [p.1, p.2]) = dueL pk hf
  | [], _ => rfl
  | p :: pk, hf => by
    have := due_zip pk hf
    unfold kD hD dueL at *
    rw [List.map_cons, List.map_cons, List.zip_cons_cons, List.map_cons, List.map_cons, this]
/-- what stays true of what was laid -/
structure BF (G : Gs) (B : Hp) (c : Ch) (rows : List D) (hf : Pr → List Ev) (vc : V) (rp du gl : Addr) : Prop where
  ok : OkC c
  hr : Rch c rows
  hl : rows.length ≤ 60
  hi : IsH c rows hf
  vc : DAt G B vc (dCh c)
  rp : DAt G B (.ref rp) (.lst rows)
  du : DAt G B (.ref du) (.lst (dueL (prs (clsC c rows).length) hf))
  gl : DAt G B (.ref gl) (lls (clsC c rows))
section
variable {X : Cx} {C CC aS aT : Addr} {B H : Hp} {σ : L2.St} {c : Ch} {rows : List D} {gs0 : List (List D)} {pk : List Pr} {hf hf' : Pr → List Ev} {vc : V} {rp du gl : Addr}
theorem BF.n60 {G : Gs} (b : BF G B c rows hf vc rp du gl) : (clsC c rows).length ≤ 60 := Nat.le_trans (cls_size rows) b.hl
theorem BF.wf {G : Gs} (b : BF G B c rows hf vc rp du gl) : ∀ g ∈ clsC c rows, ∀ s ∈ g, WfS c s := fun g hg s hs => b.hr.wf b.ok s (cls_sub rows g hg s hs)
theorem BF.sok {G : Gs} (b : BF G B c rows hf vc rp du gl) (nd : pk.Nodup) (pl : pk.length ≤ 5000) (ev : ∀ p ∈ pk, ∀ e ∈ hf' p, e ∈ evsOf c) : SOk c rows (clsC c rows) pk hf' := ⟨b.ok, b.hr, b.hl, b.wf, b.n60, nd, pl, ev⟩
/-- dict(due) -/
theorem edd_due {tl : TE} (nd : pk.Nodup) (h : Ed (gs X C) tl σ H (.lst (dueL pk hf))) : EdD (gs X C) (tCB (rDPairs X C) (tCons tl tNil)) σ H (kD pk) (hD pk hf) :=
  edd_pairs (n := 1) (by decide) (kyd_kD pk) (fun d hd => by obtain ⟨p, _, rfl⟩ := List.mem_map.mp hd; exact ⟨_, rfl⟩) (kD_nd nd) (by unfold kD hD; rw [List.length_map, List.length_map]) (immAll_iff.mpr fun d hd => by obtain ⟨p, _, rfl⟩ := List.mem_map.mp hd; exact imm_hi _) (by rw [due_zip]; exact h)
theorem o7 {Q : VK} {Dd : Ends} {dl p13 p14 : Addr} {w4 w5 w6 w7 w9 w10 w11 w13 : Option V} {vh : V} {q : Pr} {pk' : List Pr} (hD' : Dd.rt = Q) (b : BF (gs X C) B c rows hf vc rp du gl) (sb : Same B H) (two : 2 ≤ (clsC c rows).length)
    (hq : q ∈ prs (clsC c rows).length) (dh : DAt (gs X C) H vh (dHi (hf q))) (less : DAt (gs X C) H (.ref p14) (.dct (kD pk') (hD pk' hf))) (nd' : pk'.Nodup) (sub' : ∀ p ∈ pk', p ∈ prs (clsC c rows).length) (ln' : pk'.length ≠ (prs (clsC c rows).length).length) (pl' : pk'.length ≤ 5000)
    (k : ∀ H' v, Same B H' → DAt (gs X C) H' v (.bl true) → Q v H') :
    tO7 X C CC Dd [some (.ref dl), some vc, some (.ref rp), some (.ref du), w4, w5, w6, w7, some (.ref gl), w9, w10, w11, some vh, w13, some (.ref p14)] H := by
  have n60 := b.n60
  have pl : (prs (clsC c rows).length).length ≤ 3600 := prs_len n60
  have ev := b.hi.ev
  unfold tO7
  refine Evl.q_when (b := false) (Evl.et_is (Evl.et_or (et_B (G := gs X C) (ed_ask (k := 1) (b.sok (hf' := hf) nd' pl' fun p hp => ev p (sub' p hp)) (ed_var rfl (b.gl.mn sb)) (ed_var rfl less) rfl (b.vc.mn sb)))
    fun _ => et_B (G := gs X C) (ed_ask (k := 1) (gs0 := (clsC c rows).reverse) (pk := prs (clsC c rows).length) (hf := hf) ⟨b.ok, b.hr, b.hl, fun g hg => b.wf g (List.mem_reverse.mp hg), by rw [List.length_reverse]; exact n60, prs_nd _, by omega, ev⟩ (Ed.is (ed_rev (ed_var rfl (b.gl.mn sb))) (by unfold lls; rw [List.map_reverse])) (edd_due (prs_nd _) (ed_var rfl (b.du.mn sb))).ed rfl (b.vc.mn sb)))
    (by rw [showM_len ln', showM_gs (cls_rev two)]; rfl)) (fun e => by cases e) fun _ H1 s1 => ?_
  have sb1 := sb.trans s1
  refine q_setD (G := gs X C) (edd_due (prs_nd _) (ed_var rfl (b.du.mn sb1))) fun p7 H2 n7 s2 d7 => ?_
  have sb2 := sb1.trans s2
  have s02 : Same H H2 := s1.trans s2
  have nin : dP (0, (clsC c rows).length) ∉ kD (prs (clsC c rows).length) := fun hm => by
    have := (mem_prs.mp (mem_kD.mp hm)).2
    omega
  have nin' : (0, (clsC c rows).length) ∉ prs (clsC c rows).length := fun hm => nin (mem_kD.mpr hm)
  have ep : dput (kD (prs (clsC c rows).length)) (hD (prs (clsC c rows).length) hf) (dP (0, (clsC c rows).length)) (dHi (hf q)) = (kD (prs (clsC c rows).length ++ [(0, (clsC c rows).length)]), hD (prs (clsC c rows).length ++ [(0, (clsC c rows).length)]) fun p => if p = (0, (clsC c rows).length) then hf q else hf p) := by
    rw [dput_new (kyd_dP _) (kyd_kD _) nin]
    unfold kD hD
    rw [List.map_append, List.map_append, List.map_cons, List.map_nil, List.map_cons, List.map_nil]
    have h1 : (if ((0, (clsC c rows).length) : Pr) = (0, (clsC c rows).length) then hf q else hf (0, (clsC c rows).length)) = hf q := if_pos rfl
    have h2 : List.map (fun p => dHi (hf p)) (prs (clsC c rows).length) = List.map (fun p => dHi (if p = (0, (clsC c rows).length) then hf q else hf p)) (prs (clsC c rows).length) := List.map_congr_left fun p hp => by
      have : p ≠ (0, (clsC c rows).length) := fun e => nin' (by rw [← e]; exact hp)
      rw [if_neg this]
    show _ = (_, _ ++ [dHi (if ((0, (clsC c rows).length) : Pr) = (0, (clsC c rows).length) then hf q else hf (0, (clsC c rows).length))])
    rw [h1, h2]
  have imH : ∀ (l : List Pr) (g : Pr → List Ev), immAll (hD l g) = true := fun l g => immAll_iff.mpr fun d hd => by obtain ⟨p, _, rfl⟩ := List.mem_map.mp hd; exact imm_hi _
  show tSeq (tAsg (tVar 12) (gSub (tVar 7) _ _)) _ Dd [some (.ref dl), some vc, some (.ref rp), some (.ref du), w4, w5, w6, some (.ref p7), some (.ref gl), w9, w10, w11, some vh, w13, some (.ref p14)] H2
  refine q_subSet (n := 1) (k := dP (0, (clsC c rows).length)) (d := dHi (hf q)) rfl d7 (ed_var rfl (dh.mn s02)) (Ed.is (ed_tup (eda_cons ed_int (eda_cons (ed_cb (eda_cons (ed_var rfl (b.gl.mn sb2)) eda_nil) rc_lenL) eda_nil)) (by show 2 ≤ 100000; decide)) (by rw [List.length_map]; rfl)) (by decide) (kyd_dP _) ⟨_, rfl⟩ (by unfold kD; rw [List.length_map]; omega) (by rw [ep]; exact imm_prs _) (by rw [ep]; exact imH _ _) fun H3 H4 s3 w4' le4 d4 => ?_
  rw [ep] at d4
  have sb4 : Same B H4 := w4'.same ((sb1.free n7 : B p7 = none)) (sb2.trans s3)
  refine Evl.q_when (b := false) (Evl.et_is (et_B (G := gs X C) (ed_ask (k := 1) (b.sok (nodup_snoc (prs_nd _) nin') (by rw [List.length_append, List.length_singleton]; omega) fun p hp => ?_) (ed_var rfl (b.gl.mn sb4)) (ed_var rfl d4.at) rfl (b.vc.mn sb4))) (showM_len (by rw [List.length_append, List.length_singleton]; omega))) (fun e => by cases e) fun _ H5 s5 => ?_
  · by_cases e : p = (0, (clsC c rows).length)
    · rw [if_pos e]; exact ev q hq
    · rw [if_neg e]
      rcases List.mem_append.mp hp with z | z
      · exact ev p z
      · exact absurd (List.mem_singleton.mp z) e
  have sb5 := sb4.trans s5
  refine sr_ret (G := gs X C) (ed_notV (ed_ask (X := X) (C := C) (σ := [some (.ref dl), some vc, some (.ref rp), some (.ref du), w4, w5, w6, some (.ref p7), some (.ref gl), w9, w10, w11, some vh, w13, some (.ref p14)]) (k := 1) (gs0 := [rows]) (pk := []) (hf := hf) ⟨b.ok, b.hr, b.hl, fun g hg => by rw [List.mem_singleton.mp hg]; exact b.hr.wf b.ok, by show 1 ≤ 60; decide, List.nodup_nil, by show 0 ≤ 5000; decide, fun p hp => by cases hp⟩ (EdN.ed (edn_lst (eda_cons (ed_var rfl (b.rp.mn sb5)) eda_nil) (by show 1 ≤ 100000; decide))) edd_new.ed rfl (b.vc.mn sb5))) Dd H5 (Same.refl H5) fun v H6 s6 dv => ?_
  rw [showM_gs (cls_one two)] at dv
  rw [hD']
  exact k H6 v (sb5.trans s6) dv
end
end K3

set_option Elab.async false
set_option linter.all false
set_option maxRecDepth 100000
set_option maxHeartbeats 1000000
/-! The law of one right answer: the bent answer. -/
namespace K3
open PySem PySem.Spec PyProof.Rows L2 He KM
section
variable {X : Cx} {C CC aS aT : Addr} {B H : Hp} {σ : L2.St} {c : Ch} {rows : List D} {gs0 : List (List D)} {pk : List Pr} {hf hf' : Pr → List Ev} {vc : V} {rp du gl : Addr}
theorem q_par2 {G : Gs} {σ : L2.St} {H : Hp} {t1 t2 : TE} {z : TS} {Dd : Ends} {d e : D} {i j : Nat} (h1 : Ed G t1 σ H d) (h2 : Ed G t2 σ H e) (k : ∀ v w H1, Same H H1 → DAt G H1 v d → DAt G H1 w e → z Dd ((σ.set i (some v)).set j (some w)) H1) :
    tSeq (tPar i j (tCons t1 (tCons t2 tNil))) z Dd σ H := h1 H (Same.refl H) _ fun v H1 s1 dv => h2 H1 s1 _ fun w H2 s2 dw => ⟨v, w, rfl, k v w H2 (s1.trans s2) (dv.mn s2) dw⟩
theorem cmp_bl (a b : Bool) : CmpOk (.bl a) (.bl b) := .inr ⟨rfl, rfl⟩
theorem o6 {Q : VK} {Dd : Ends} {dl p13 p14 : Addr} {w4 w5 w6 w7 w9 w10 : Option V} {vh vp : V} {q : Pr} {pk' : List Pr} {h2 : List Ev} (hD' : Dd.rt = Q) (b : BF (gs X C) B c rows hf vc rp du gl) (sb : Same B H) (two : 2 ≤ (clsC c rows).length)
    (hq : q ∈ prs (clsC c rows).length) (dp : DAt (gs X C) H vp (dP q)) (dh : DAt (gs X C) H vh (dHi (hf q))) (less : DAt (gs X C) H (.ref p14) (.dct (kD pk') (hD pk' hf))) (nd' : pk'.Nodup) (sub' : ∀ p ∈ pk', p ∈ prs (clsC c rows).length) (ln' : pk'.length ≠ (prs (clsC c rows).length).length) (pl' : pk'.length ≤ 5000)
    (bent : DAt (gs X C) H (.ref p13) (.dct (kD (prs (clsC c rows).length)) (hD (prs (clsC c rows).length) fun p => if p = q then h2 else hf p))) (ev2 : ∀ e ∈ h2, e ∈ evsOf c)
    (k : ∀ H' v, Same B H' → DAt (gs X C) H' v (.bl true) → Q v H') :
    tO6 X C CC Dd [some (.ref dl), some vc, some (.ref rp), some (.ref du), w4, w5, w6, w7, some (.ref gl), w9, w10, some vp, some vh, some (.ref p13), some (.ref p14)] H := by
  have n60 := b.n60
  have pl : (prs (clsC c rows).length).length ≤ 3600 := prs_len n60
  have ev := b.hi.ev
  have ne := cls_ne (T := TwC c) rows
  obtain ⟨p1, p2⟩ := mem_prs.mp hq
  obtain ⟨g1, a1, b1, c1, f1⟩ := headD_mem (i := q.1) (gs := clsC c rows) (by omega) ne
  obtain ⟨g2, a2, b2, c2, f2⟩ := headD_mem (i := q.2) (gs := clsC c rows) p2 ne
  have dgl := b.gl.mn sb
  unfold lls at dgl
  unfold tO6
  refine q_par2 (G := gs X C) (d := headD (clsC c rows) q.1) (e := headD (clsC c rows) q.2)
    (ed_op (ed_op (ed_var rfl dgl) (ed_op (ed_var rfl dp) ed_int (rd_ixT rfl)) (rd_ixL (atI_nat (by rw [List.getElem?_map, a1]; rfl)))) ed_int (rd_ixL (atI_nat (j := 0) b1)))
    (ed_op (ed_op (ed_var rfl dgl) (ed_op (ed_var rfl dp) ed_int (rd_ixT rfl)) (rd_ixL (atI_nat (by rw [List.getElem?_map, a2]; rfl)))) ed_int (rd_ixL (atI_nat (j := 0) b2))) fun v4 v10 H1 s1 d4 d10 => ?_
  have sb1 := sb.trans s1
  refine q_set (G := gs X C) (d := .bl (spk (step c) false (headD (clsC c rows) q.1) (headD (clsC c rows) q.2) h2)) (ed_call (dom := m_does_part) (eda_cons (ed_var rfl (b.vc.mn sb1)) (eda_cons (ed_var rfl d4) (eda_cons (ed_var rfl d10) (eda_cons (ed_op (ed_var rfl (bent.mn s1)) (ed_var rfl (dp.mn s1)) (rd_ixD (n := 1) (by decide) (kyd_dP q) (dget_hD hq))) eda_nil)))) ⟨c, _, _, h2, b.ok, b.wf g1 c1 _ f1, b.wf g2 c2 _ f2, ev2, by rw [if_pos rfl], rfl⟩) fun v6 H2 s2 d6 => ?_
  have sb2 := sb1.trans s2
  have s02 := s1.trans s2
  refine Evl.q_when (b := false) (Evl.et_is (et_test (ed_op (G := gs X C) (ed_ask (k := 1) (b.sok (prs_nd _) (by omega) fun p hp => ?_) (ed_var rfl (b.gl.mn sb2)) (ed_var rfl (bent.mn s02)) rfl (b.vc.mn sb2)) (ed_var rfl d6) (rd_ne (cmp_bl _ _)))) (by rw [showM_bent b.hi hq rfl fun p hp => hp, decide_eq_true rfl]; rfl)) (fun e => by cases e) fun _ H3 s3 => ?_
  · by_cases e : p = q
    · rw [if_pos e]; exact ev2
    · rw [if_neg e]; exact ev p hp
  exact o7 (p13 := p13) hD' b (sb2.trans s3) two hq (dh.mn (s02.trans s3)) (less.mn (s02.trans s3)) nd' sub' ln' pl' k
end
end K3

set_option Elab.async false
set_option linter.all false
set_option maxRecDepth 100000
set_option maxHeartbeats 1000000
/-! The law of one right answer: how long a parting history is; the picks. -/
namespace K3
open PySem PySem.Spec PyProof.Rows L2 He KM
section
variable {c : Ch} {rows : List D}
theorem scan_len {p : D × D} {h : List Ev} (hr : Rch c rows) : ∀ (es : List Ev) (m : List Me), (∀ e ∈ es, e ∈ evsOf c) → MOk c rows m → (p, h) ∈ m →
    (∀ q, KM.scan (step c) p h es m = .inl q → q.length = h.length + 1) ∧ ∀ m', KM.scan (step c) p h es m = .inr m' → MOk c rows m'
  | [], m, _, mo, _ => ⟨fun q e => (by cases e), fun m' e => (by cases e; exact mo)⟩
  | e :: es, m, he, mo, hm => by
    rw [KM.scan]
    split
    · exact ⟨fun q z => by cases z; simp, fun m' z => by cases z⟩
    · have hin := he e List.mem_cons_self
      split
      · exact scan_len hr es m (fun x hx => he x (List.mem_cons_of_mem _ hx)) mo hm
      · rename_i hn
        exact scan_len hr es _ (fun x hx => he x (List.mem_cons_of_mem _ hx)) (mo.add hm hin (hr.closed _ (mo.a _ hm) e hin) (hr.closed _ (mo.b _ hm) e hin) hn) (List.mem_append_left _ hm)
theorem Apt.len (hr : Rch c rows) (hl : rows.length ≤ 60) : ∀ {n : Nat} {m : List Me} {at_ : Nat} {q : List Ev}, AptC c n m at_ (some q) → MOk c rows m → q.length ≤ 3601 := fun {n} => by
  induction n with
  | zero =>
    intro m at_ q A mo
    cases A with
    | found h1 h2 =>
      have hm := List.mem_of_getElem? h1
      have := (scan_len hr (evsOf c) m (fun _ h => h) mo hm).1 _ h2
      have h3 := mo.len _ hm
      simp only at h3
      have h4 := mo.size hl
      omega
  | succ n ih =>
    intro m at_ q A mo
    cases A with
    | next h1 h2 h3 => exact ih h3 ((scan_len hr (evsOf c) m (fun _ h => h) mo (List.mem_of_getElem? h1)).2 _ h2)
theorem IsH.len {hf : Pr → List Ev} (hr : Rch c rows) (hl : rows.length ≤ 60) (h : IsH c rows hf) : ∀ p ∈ prs (clsC c rows).length, (hf p).length ≤ 3601 := fun p hp => by
  obtain ⟨n, A⟩ := h p hp
  obtain ⟨p1, p2⟩ := mem_prs.mp hp
  refine Apt.len hr hl A ⟨by simp, fun x hx => ?_, fun x hx => ?_, fun x hx => ?_, fun x hx => ?_⟩
  · rw [List.mem_singleton.mp hx]; exact headD_rows (by omega)
  · rw [List.mem_singleton.mp hx]; exact headD_rows p2
  · rw [List.mem_singleton.mp hx]; intro e he; cases he
  · rw [List.mem_singleton.mp hx]; exact Nat.one_pos
end
section
variable {G : Gs} {σ : L2.St} {H : Hp} {Q : VK} {E : XK} {dl sa : Addr} {ta tb : TE} {ds es : List D}
theorem edn_catV {j : Nat} {b : Addr} {ub : List V} (ha : EdN G ta σ H ds) (e : σ[j]? = some (some (.ref b))) (hb : LL G H b ub es) (hl : ds.length + es.length ≤ 100000) : EdN G (tOp (rAddU G) ta (tVar j)) σ H (ds ++ es) := fun H1 s Q q =>
  ha H1 s _ fun p us H2 n2 s2 hp da => ⟨_, e, .inr (by
    obtain ⟨k1, k2⟩ := (hb.mn s).mn s2
    exact ⟨p, b, us, ub, rfl, rfl, hp, k1, Evl.sz_of (by rw [da.length, k2.length]; exact hl),
          fun l hl' => q l _ _ (s2.free hl') (s2.trans (.new hl')) upd_same ((da.append k2).mn (.new hl'))⟩)⟩
/-- a pick out of new data -/
theorem run_pickD {i : Nat} {tl : TE} (e : σ[i]? = some (some (.ref dl))) (dr : Dr G H dl sa) (h : EdN G tl σ H ds) (im : immAll ds = true) (hne : ds ≠ []) (k : ∀ v d H', d ∈ ds → SX dl H H' → Dr G H' dl sa → DAt G H' v d → Q v H') : tCall (spPk G) [] E (tCons (tVar i) (tCons tl tNil)) σ H Q := by
  refine ⟨.ref dl, e, h H (Same.refl H) _ fun t us H1 nt s1 ht da => ?_⟩
  have ntd : t ≠ dl := fun q => by
    obtain ⟨u, hu⟩ := dr.lst
    rw [q, hu] at nt; cases nt
  refine ⟨dl, sa, t, us, rfl, dr.mn s1, .inl (.inl ht), ntd, fun q => ?_, fun j v H' hj sx dr' => ?_⟩
  · have := da.length
    rw [q] at this
    exact hne (List.length_eq_zero_iff.mp this.symm)
  · obtain ⟨d, hd, dv⟩ := da.getV hj
    have hm := List.mem_of_getElem? hd
    exact k v d H' hm ((SX.of dr s1).tr sx) dr' (dv.le sx.le (immAll_iff.mp im d hm))
end
end K3

set_option Elab.async false
set_option linter.all false
set_option maxRecDepth 100000
set_option maxHeartbeats 1000000
/-! The law of one right answer: from the first pick on. -/
namespace K3
open PySem PySem.Spec PyProof.Rows L2 He KM
section
variable {X : Cx} {C CC aS aT : Addr} {B H : Hp} {σ : L2.St} {c : Ch} {rows : List D} {gs0 : List (List D)} {pk : List Pr} {hf hf' : Pr → List Ev} {vc : V} {rp du gl : Addr}
theorem q_anyG {σ : L2.St} {H : Hp} {te : TE} {g : TG} {z : TS} {Dd : Ends} {P : V → Hp → Prop} (h : ∀ Q : VK, (∀ v H1, P v H1 → Q v H1) → te σ H Q) (k : ∀ v H1, P v H1 → g v σ H1 fun σ2 H2 => z Dd σ2 H2) : tSeq (tAsg te g) z Dd σ H := h _ k
theorem q_parDD {G : Gs} {σ : L2.St} {H : Hp} {t1 t2 : TE} {z : TS} {Dd : Ends} {ks1 hs1 ks2 hs2 : List D} {i j : Nat} (h1 : EdD G t1 σ H ks1 hs1) (h2 : EdD G t2 σ H ks2 hs2) (k : ∀ p q H1, H p = none → H q = none → p ≠ q → Same H H1 → DD G H1 p ks1 hs1 → DD G H1 q ks2 hs2 → z Dd ((σ.set i (some (.ref p))).set j (some (.ref q))) H1) :
    tSeq (tPar i j (tCons t1 (tCons t2 tNil))) z Dd σ H := h1 H (Same.refl H) _ fun p H1 n1 s1 d1 => h2 H1 s1 _ fun q H2 n2 s2 d2 => ⟨.ref p, .ref q, rfl, k p q H2 n1 (s1.free n2) (by
      obtain ⟨o, ho⟩ := d1.some
      exact ne_of_none ho n2) (s1.trans s2) (d1.mn s2) d2⟩
theorem DD.sx {G : Gs} {H H' : Hp} {dl p : Addr} {ks hs : List D} (d : DD G H p ks hs) (s : SX dl H H') (n : p ≠ dl) (i : immAll ks = true) (j : immAll hs = true) : DD G H' p ks hs := by
  obtain ⟨o, xs, h1, h2, h3⟩ := d
  exact ⟨o, xs, s.k p _ n h1, h2, h3.le s.le i j⟩
theorem Dr.wr {G : Gs} {H H' : Hp} {dl sa p : Addr} {o : Obj} (d : Dr G H dl sa) (w : Wr p H H') (h : H p = some (objO p o)) : Dr G H' dl sa := by
  obtain ⟨ns, b, n, h1, h2, h3⟩ := d
  have n1 : dl ≠ p := fun e => by rw [e, h] at h1; cases h1
  refine ⟨ns, b, n, by rw [w.ne n1]; exact h1, ?_, h3⟩
  rcases h2 with (q | ⟨ob, q⟩) | q
  · exact .inl (.inl (by rw [w.ne (fun e => by rw [e, h] at q; cases q)]; exact q))
  · exact .inl (.inr ⟨ob, by rw [w.ne (fun e => by rw [e, h] at q; cases q)]; exact q⟩)
  · exact .inr q
theorem erase_map {α β : Type} (f : α → β) : ∀ (l : List α) (i : Nat), (l.map f).eraseIdx i = (l.eraseIdx i).map f
  | [], _ => rfl
  | _ :: _, 0 => rfl
  | a :: l, i + 1 => by rw [List.map_cons, List.eraseIdx_cons_succ, List.eraseIdx_cons_succ, List.map_cons, erase_map f l i]
theorem set_mapI {α β : Type} [DecidableEq α] {l : List α} {f : α → β} {q : α} {ix : Nat} {v : β} (nd : l.Nodup) (h : l[ix]? = some q) : (l.map f).set ix v = l.map fun p => if p = q then v else f p := by
  apply List.ext_getElem?
  intro j
  rw [List.getElem?_map]
  obtain ⟨h1, h2⟩ := List.getElem?_eq_some_iff.mp h
  by_cases e : ix = j
  · subst e
    rw [List.getElem?_set_self (by rw [List.length_map]; exact h1), h]
    simp
  · rw [List.getElem?_set_ne e, List.getElem?_map]
    cases hj : l[j]? with
    | none => rfl
    | some p =>
      obtain ⟨k1, k2⟩ := List.getElem?_eq_some_iff.mp hj
      have : p ≠ q := fun z => e ((List.getElem_inj nd).mp (by rw [h2, k2, z]))
      simp [this]
theorem imH (l : List Pr) (g : Pr → List Ev) : immAll (hD l g) = true := immAll_iff.mpr fun d hd => by obtain ⟨p, _, rfl⟩ := List.mem_map.mp hd; exact imm_hi _
theorem len_kD (l : List Pr) : (kD l).length = l.length := List.length_map _
theorem o5 {Q : VK} {Dd : Ends} {dl sa : Addr} {w4 w5 w6 w7 w9 w10 w11 w12 w13 w14 : Option V} (hD' : Dd.rt = Q) (b : BF (gs X C) B c rows hf vc rp du gl) (sb : Same B H) (nB : B dl = none) (dr : Dr (gs X C) H dl sa) (two : 2 ≤ (clsC c rows).length)
    (hdu : ∃ us, SqL (gs X C).K H du us ∧ DAll (gs X C) H us (dueL (prs (clsC c rows).length) hf)) (ndu : du ≠ dl)
    (k : ∀ H' v, Same B H' → DAt (gs X C) H' v (.bl true) → Q v H') :
    tO5 X C CC Dd [some (.ref dl), some vc, some (.ref rp), some (.ref du), w4, w5, w6, w7, some (.ref gl), w9, w10, w11, w12, w13, w14] H := by
  have n60 := b.n60
  have pl : (prs (clsC c rows).length).length ≤ 3600 := prs_len n60
  have ev := b.hi.ev
  have hlen := b.hi.len b.hr b.hl
  have imD : ∀ d ∈ dueL (prs (clsC c rows).length) hf, imm d = true := fun d hd => by
    obtain ⟨p, _, rfl⟩ := List.mem_map.mp hd
    show immAll [dP p, dHi (hf p)] = true
    rw [immAll, immAll, immAll, imm_hi]; rfl
  obtain ⟨us, hq1, hq2⟩ := hdu
  have hnil : us ≠ [] := fun e => by
    have h1 := hq2.length
    unfold dueL at h1
    rw [e, List.length_map] at h1
    have h01 : ((0, 1) : Pr) ∈ prs (clsC c rows).length := mem_prs.mpr ⟨by show 0 < 1; omega, by show 1 < _; omega⟩
    have := List.length_pos_of_mem h01
    simp at h1; omega
  unfold tO5
  refine q_anyG (P := fun v H1 => ∃ q, q ∈ prs (clsC c rows).length ∧ Same B H1 ∧ Dr (gs X C) H1 dl sa ∧ DAt (gs X C) H1 v (.tup [dP q, dHi (hf q)])) (fun Q' k' => ⟨.ref dl, rfl, .ref du, rfl, dl, sa, du, us, rfl, dr, hq1, ndu, hnil, fun i v H' hi sx dr' => ?_⟩) fun v H1 hv => ?_
  · obtain ⟨d, hd, dv⟩ := hq2.getV hi
    have hm := List.mem_of_getElem? hd
    obtain ⟨q, hq, rfl⟩ := List.mem_map.mp hm
    exact k' v H' ⟨q, hq, sx.same sb nB, dr', dv.le sx.le (imD _ hm)⟩
  obtain ⟨q, hq, sb1, dr1, dv⟩ := hv
  refine g_pair (G := gs X C) dv fun vp vh dp dh => ?_
  show tSeq (tPar 13 14 _) _ Dd [some (.ref dl), some vc, some (.ref rp), some (.ref du), w4, w5, w6, w7, some (.ref gl), w9, w10, some vp, some vh, w13, w14] H1
  refine q_parDD (G := gs X C) (edd_due (prs_nd _) (ed_var rfl (b.du.mn sb1))) (edd_due (prs_nd _) (ed_var rfl (b.du.mn sb1))) fun p13 p14 H2 n13 n14 n34 s2 d13 d14 => ?_
  have sb2 := sb1.trans s2
  have dr2 := dr1.mn s2
  have nd : ∀ p, H1 p = none → p ≠ dl := fun p hp e => by
    obtain ⟨u, hu⟩ := dr1.lst
    rw [e, hu] at hp; cases hp
  have hmk : dP q ∈ kD (prs (clsC c rows).length) := mem_kD.mpr hq
  generalize hix : (kD (prs (clsC c rows).length)).idxOf (dP q) = ix
  have hkx : kix (kD (prs (clsC c rows).length)) (key (dP q)) = some ix := by rw [kix_idx (kyd_dP q) (kyd_kD _), if_pos hmk, hix]
  have hlt : ix < (prs (clsC c rows).length).length := by rw [← hix, ← len_kD]; exact List.idxOf_lt_length_of_mem hmk
  have e1 : (kD (prs (clsC c rows).length)).eraseIdx ix = kD ((prs (clsC c rows).length).eraseIdx ix) := erase_map _ _ _
  have e2 : (hD (prs (clsC c rows).length) hf).eraseIdx ix = hD ((prs (clsC c rows).length).eraseIdx ix) hf := erase_map _ _ _
  have sub := List.eraseIdx_sublist (prs (clsC c rows).length) ix
  show tSeq (tDrop _) _ Dd [some (.ref dl), some vc, some (.ref rp), some (.ref du), w4, w5, w6, w7, some (.ref gl), w9, w10, some vp, some vh, some (.ref p13), some (.ref p14)] H2
  refine ⟨.ref p14, rfl, p14, rfl, ⟨_, _, d14.at⟩, vp, rfl, rDPop_dd d14 (isK_tup (n := 1) (by decide) ⟨_, rfl⟩ (kyd_dP q) (dp.mn s2)) hkx (by rw [e1]; exact imm_prs _) (by rw [e2]; exact imH _ _) fun H3 _ w3 le3 d14' => ?_⟩
  rw [e1, e2] at d14'
  have sb3 : Same B H3 := w3.same (sb1.free n14) sb2
  obtain ⟨o14, ho14⟩ := d14.some
  have dr3 := dr2.wr w3 ho14
  have d13' := d13.wr w3 le3 n34 (imm_prs _) (imH _ _)
  have dp3 := (dp.mn s2).le le3 rfl
  have dh3 := (dh.mn s2).le le3 (imm_hi _)
  have hq60 := hlen q hq
  have he : ∀ x ∈ hf q, x ∈ evsOf c := ev q hq
  have hask : Ev.ask 0 ∈ evsOf c := mem_evs.mpr (.inr ⟨0, by have := b.ok.f1; omega, rfl⟩)
  have htick : Ev.tick ∈ evsOf c := mem_evs.mpr (.inl rfl)
  have ea : ∀ {σ : L2.St} {Hx : Hp}, Ed (gs X C) (tTup (tCons (tTup (tCons (tC (.str "ask")) (tCons (tC (.int 0)) tNil))) tNil)) σ Hx (dHi [.ask 0]) := fun {σ Hx} => ed_tup (G := gs X C) (eda_cons (ed_tup (eda_cons ed_str (eda_cons ed_int eda_nil)) (by show 2 ≤ 100000; decide)) eda_nil) (by show 1 ≤ 100000; decide)
  have et : ∀ {σ : L2.St} {Hx : Hp}, Ed (gs X C) (tTup (tCons (tTup (tCons (tC (.str "tick")) tNil)) tNil)) σ Hx (dHi [.tick]) := fun {σ Hx} => ed_tup (G := gs X C) (eda_cons (ed_tup (eda_cons ed_str eda_nil) (by show 1 ≤ 100000; decide)) eda_nil) (by show 1 ≤ 100000; decide)
  refine q_setN (G := gs X C) (ds := [dHi (.tick :: hf q), dHi (hf q ++ [.ask 0]), dHi [.ask 0]]) (edn_lst (eda_cons (Ed.is (ed_op et (ed_var rfl dh3) (rd_cat (by simp; omega))) rfl) (eda_cons (Ed.is (ed_op (ed_var rfl dh3) ea (rd_cat (by simp; omega))) (by unfold dHi; rw [List.map_append])) (eda_cons ea eda_nil))) (by show 3 ≤ 100000; decide)) fun p5 us5 H4 n5 s4 h5 d5 => ?_
  have dr4 := dr3.mn s4
  have sb4 := sb3.trans s4
  have imE : immAll ([dHi (hf q).dropLast] ++ [dHi (.tick :: hf q), dHi (hf q ++ [.ask 0]), dHi [.ask 0]]) = true := immAll_iff.mpr fun d hd => by
    simp only [List.mem_append, List.mem_cons, List.not_mem_nil, or_false] at hd
    rcases hd with h | h | h | h <;> (rw [h]; exact imm_hi _)
  show tSeq (tAsg (tCall _ _ _ _) (gSub (tVar 13) (tVar 11) _)) _ Dd [some (.ref dl), some vc, some (.ref rp), some (.ref du), w4, some (.ref p5), w6, w7, some (.ref gl), w9, w10, some vp, some vh, some (.ref p13), some (.ref p14)] H4
  refine q_anyG (P := fun v H5 => ∃ h2 : List Ev, (∀ e ∈ h2, e ∈ evsOf c) ∧ SX dl H4 H5 ∧ DAt (gs X C) H5 v (dHi h2)) (fun Q' k' => run_pickD (G := gs X C) (σ := [some (.ref dl), some vc, some (.ref rp), some (.ref du), w4, some (.ref p5), w6, w7, some (.ref gl), w9, w10, some vp, some vh, some (.ref p13), some (.ref p14)]) rfl dr4 (edn_catV (G := gs X C) (ds := [dHi (hf q).dropLast]) (edn_lst (G := gs X C) (eda_cons (Ed.is (ed_slT (G := gs X C) (ed_var rfl (dh3.mn s4)) edp_none (edp_some (G := gs X C) (ed_neg (G := gs X C) ed_int))) (by rw [cut_last]; unfold dHi; rw [List.map_dropLast])) eda_nil) (by show 1 ≤ 100000; decide)) rfl ⟨h5, d5⟩ (by show 1 + 3 ≤ 100000; decide)) imE (by simp) fun v d H5 hd sx dr5 dv => ?_) fun v H5 hv => ?_
  · simp only [List.mem_append, List.mem_cons, List.not_mem_nil, or_false] at hd
    rcases hd with h | h | h | h
    · exact k' v H5 ⟨_, fun e hm => he e ((List.dropLast_sublist _).subset hm), sx, h ▸ dv⟩
    · exact k' v H5 ⟨_, fun e hm => by rcases List.mem_cons.mp hm with z | z; rw [z]; exact htick; exact he e z, sx, h ▸ dv⟩
    · exact k' v H5 ⟨_, fun e hm => by rcases List.mem_append.mp hm with z | z; exact he e z; rw [List.mem_singleton.mp z]; exact hask, sx, h ▸ dv⟩
    · exact k' v H5 ⟨_, fun e hm => by rw [List.mem_singleton.mp hm]; exact hask, sx, h ▸ dv⟩
  obtain ⟨h2, ev2, sx, dv2⟩ := hv
  have sb5 : Same B H5 := sx.same sb4 nB
  have d13_5 := (d13'.mn s4).sx sx (nd p13 n13) (imm_prs _) (imH _ _)
  have d14_5 := (d14'.mn s4).sx sx (nd p14 n14) (imm_prs _) (imH _ _)
  have dp5 := (dp3.mn s4).le sx.le rfl
  have dh5 := (dh3.mn s4).le sx.le (imm_hi _)
  have ep : dput (kD (prs (clsC c rows).length)) (hD (prs (clsC c rows).length) hf) (dP q) (dHi h2) = (kD (prs (clsC c rows).length), hD (prs (clsC c rows).length) fun p => if p = q then h2 else hf p) := by
    rw [dput_old (kyd_dP q) (kyd_kD _) hmk, hix]
    have hat : (prs (clsC c rows).length)[ix]? = some q := by
      have h1 : (kD (prs (clsC c rows).length))[ix]? = some (dP q) := by
        rw [← hix, List.getElem?_eq_getElem (List.idxOf_lt_length_of_mem hmk), List.getElem_idxOf]
      unfold kD at h1
      rw [List.getElem?_map] at h1
      obtain ⟨p, hp, e⟩ := Option.map_eq_some_iff.mp h1
      rw [hp, dP_inj e]
    unfold hD
    rw [set_mapI (prs_nd _) hat]
    congr 1
    exact List.map_congr_left fun p _ => by by_cases e : p = q <;> simp [e]
  refine ⟨.ref p13, rfl, vp, rfl, (rDSet_dd (k := dP q) (Q := fun H6 => tO6 X C CC Dd _ H6) d13_5 (isK_tup (n := 1) (by decide) ⟨_, rfl⟩ (kyd_dP q) dp5) dv2 (by rw [len_kD]; omega) (by rw [ep]; exact imm_prs _) (by rw [ep]; exact imH _ _) fun H6 w6' le6 dd6 => ?_)⟩
  rw [ep] at dd6
  obtain ⟨o13, ho13⟩ := d13_5.some
  exact o6 hD' b (w6'.same (sb1.free n13) sb5) two hq (dp5.le le6 rfl) (dh5.le le6 (imm_hi _)) (d14_5.wr w6' le6 n34.symm (imm_prs _) (imH _ _)).at (List.Nodup.sublist sub (prs_nd _)) (fun p hp => sub.subset hp) (by rw [List.length_eraseIdx_of_lt hlt]; omega) (by rw [List.length_eraseIdx_of_lt hlt]; omega) dd6.at ev2 k
end
end K3

set_option Elab.async false
set_option linter.all false
set_option maxRecDepth 100000
set_option maxHeartbeats 1000000
/-! The law of one right answer: where nothing is in doubt. -/
namespace K3
open PySem PySem.Spec PyProof.Rows L2 He KM
section
variable {X : Cx} {C CC aS aT : Addr} {B H : Hp} {σ : L2.St} {c : Ch} {rows : List D} {gs0 : List (List D)} {pk : List Pr} {hf hf' : Pr → List Ev} {vc : V} {rp du gl : Addr}
theorem eqd_due {hf : Pr → List Ev} (l : List Pr) : eqd 4 (.lst (dueL l hf)) = true := by
  rw [eqd]
  refine eqdAll_iff.mpr fun d hd => ?_
  obtain ⟨p, _, rfl⟩ := List.mem_map.mp hd
  rw [eqd]
  refine eqdAll_iff.mpr fun d hd => ?_
  rcases List.mem_cons.mp hd with z | z
  · rw [z]; rfl
  · rw [List.mem_singleton.mp z, dHi, eqd]
    refine eqdAll_iff.mpr fun d hd => ?_
    obtain ⟨e, _, rfl⟩ := List.mem_map.mp hd
    exact kyd_eqd _ _ (kyd_ev e)
theorem o4 {Q : VK} {Dd : Ends} {dl sa : Addr} {w4 w5 w6 w7 w9 w10 w11 w12 w13 w14 : Option V} (hD' : Dd.rt = Q) (b : BF (gs X C) B c rows hf vc rp du gl) (sb : Same B H) (nB : B dl = none) (dr : Dr (gs X C) H dl sa)
    (hdu : ∃ us, H du = some (.lst us) ∧ DAll (gs X C) H us (dueL (prs (clsC c rows).length) hf)) (ndu : du ≠ dl)
    (k : ∀ H' v, Same B H' → DAt (gs X C) H' v (.bl true) → Q v H') :
    tO4 X C CC Dd [some (.ref dl), some vc, some (.ref rp), some (.ref du), w4, w5, w6, w7, some (.ref gl), w9, w10, w11, w12, w13, w14] H := by
  have n60 := b.n60
  have hask : Ev.ask 0 ∈ evsOf c := mem_evs.mpr (.inr ⟨0, by have := b.ok.f1; omega, rfl⟩)
  obtain ⟨us, h1, h2⟩ := hdu
  unfold tO4
  refine Evl.q_when (b := decide (D.lst (dueL (prs (clsC c rows).length) hf) = D.lst [])) (et_test (ed_op (G := gs X C) (ed_var rfl (.lst (.inl (.inl h1)) h2)) nil_list (rd_eq (.inl ⟨⟨4, by decide, eqd_due _⟩, ⟨1, by decide, by rw [eqd]; rfl⟩⟩)))) (fun hb H1 s1 => ?_) (fun hb H1 s1 => ?_)
  · have hb := of_decide_eq_true hb
    have hp : prs (clsC c rows).length = [] := by
      injection hb with hb
      exact List.map_eq_nil_iff.mp hb
    have sb1 : Same B H1 := sb.trans s1
    refine sr_ret (G := gs X C) (ed_notV (ed_ask (X := X) (C := C) (σ := [some (.ref dl), some vc, some (.ref rp), some (.ref du), w4, w5, w6, w7, some (.ref gl), w9, w10, w11, w12, w13, w14]) (k := 1) (pk := [(0, 1)]) (hf := fun _ => [.ask 0]) (b.sok (by simp) (by show 1 ≤ 5000; decide) fun p hp e he => by rw [List.mem_singleton.mp he]; exact hask) (ed_var rfl (b.gl.mn sb1)) (edd_due (X := X) (C := C) (pk := [(0, 1)]) (hf := fun _ => [.ask 0]) (by simp) (EdN.ed (edn_lst (G := gs X C) (eda_cons (ed_tup (G := gs X C) (eda_cons (ed_tup (eda_cons ed_int (eda_cons ed_int eda_nil)) (by show 2 ≤ 100000; decide)) (eda_cons (ed_tup (eda_cons (ed_tup (eda_cons ed_str (eda_cons ed_int eda_nil)) (by show 2 ≤ 100000; decide)) eda_nil) (by show 1 ≤ 100000; decide)) eda_nil)) (by show 2 ≤ 100000; decide)) eda_nil) (by show 1 ≤ 100000; decide)))).ed rfl (b.vc.mn sb1))) _ H1 (Same.refl H1) fun v H2 s2 dv => ?_
    rw [showM_len (by rw [hp]; simp)] at dv
    show Dd.rt v H2
    rw [hD']
    exact k H2 v (sb1.trans s2) dv
  · have hb := of_decide_eq_false hb
    have hp : prs (clsC c rows).length ≠ [] := fun e => hb (by rw [e]; rfl)
    exact o5 hD' b (sb.trans s1) nB (dr.mn s1) (prs_two hp) ⟨us, .inl (.inl (s1 _ _ h1)), h2.mn s1⟩ ndu k
end
end K3

set_option Elab.async false
set_option linter.all false
set_option maxRecDepth 100000
set_option maxHeartbeats 1000000
/-! The law of one right answer: what was found is what is due. -/
namespace K3
open PySem PySem.Spec PyProof.Rows L2 He KM
section
variable {X : Cx} {C CC aS aT : Addr} {B H : Hp} {σ : L2.St} {c : Ch} {rows : List D} {gs0 : List (List D)} {pk : List Pr} {hf hf' : Pr → List Ev} {vc : V} {rp du gl : Addr}
/-- list(x.doubts.items()) -/
theorem ed_found {k : Nat} {v : V} (F : Fp X.K C CC aS aT) (e : σ[k]? = some (some v)) (h : CO (gs X C) CC H v gs0 (kD pk) (hD pk hf)) : Ed (gs X C) (fun σ H Q => (tFld X.K (tVar k) "doubts") σ H fun x H1 => rDItems X C x H1 Q) σ H (.lst (dueL pk hf)) := fun H1 s Q q =>
  (ed_doubts (G := gs X C) F.clsCC F.nDoubts e h) H1 s _ fun w H2 s2 dw => by
    obtain ⟨a, rfl⟩ : ∃ a, w = .ref a := by cases dw; exact ⟨_, rfl⟩
    exact ⟨a, _, _, rfl, dw, fun H' p s' np dv => q _ H' (s2.trans s') (by rw [← due_zip]; exact dv)⟩
theorem dueL_rev (pk : List Pr) (hf : Pr → List Ev) : (dueL pk hf).reverse = dueL pk.reverse hf := by unfold dueL; rw [List.map_reverse]
theorem o3 (F : Fp X.K C CC aS aT) {Q : VK} {Dd : Ends} {dl sa : Addr} {w4 w5 w6 w7 w10 w11 w12 w13 w14 : Option V} {v9 : V} (hD' : Dd.rt = Q) (b : BF (gs X C) B c rows hf vc rp du gl) (sb : Same B H) (nB : B dl = none) (dr : Dr (gs X C) H dl sa)
    (hdu : ∃ us, H du = some (.lst us) ∧ DAll (gs X C) H us (dueL (prs (clsC c rows).length) hf)) (ndu : du ≠ dl) (h9 : CO (gs X C) CC H v9 (clsC c rows) (kD (prs (clsC c rows).length)) (hD (prs (clsC c rows).length) hf))
    (k : ∀ H' v, Same B H' → DAt (gs X C) H' v (.bl true) → Q v H') :
    tO3 X C CC Dd [some (.ref dl), some vc, some (.ref rp), some (.ref du), w4, w5, w6, w7, some (.ref gl), some v9, w10, w11, w12, w13, w14] H := by
  have n60 := b.n60
  have pl : (prs (clsC c rows).length).length ≤ 3600 := prs_len n60
  have nr : (prs (clsC c rows).length).reverse.Nodup := List.pairwise_reverse.mpr ((prs_nd _).imp fun h => Ne.symm h)
  obtain ⟨us, h1, h2⟩ := hdu
  have dd : DAt (gs X C) H (.ref du) (.lst (dueL (prs (clsC c rows).length) hf)) := .lst (.inl (.inl h1)) h2
  unfold tO3
  refine Evl.q_when (b := false) (Evl.et_is (Evl.et_or (et_test (ed_op (G := gs X C) (ed_found F rfl h9) (ed_var rfl dd) (rd_ne (.inl ⟨⟨4, by decide, eqd_due _⟩, ⟨4, by decide, eqd_due _⟩⟩))))
    fun _ => Evl.et_not (et_B (G := gs X C) (ed_ask (k := 1) (hf := hf) (b.sok nr (by rw [List.length_reverse]; omega) fun p hp => b.hi.ev p (List.mem_reverse.mp hp)) (ed_var rfl (b.gl.mn sb)) (edd_due nr (Ed.is (ed_rev (ed_var rfl dd)) (by rw [dueL_rev]))).ed rfl (b.vc.mn sb))))
    (by rw [showM_true (by rw [List.length_reverse]) (fun p hp => List.mem_reverse.mpr hp) b.hi, decide_eq_true rfl]; rfl)) (fun e => by cases e) fun _ H1 s1 => ?_
  exact o4 hD' b (sb.trans s1) nB (dr.mn s1) ⟨us, s1 _ _ h1, h2.mn s1⟩ ndu k
end
end K3

set_option Elab.async false
set_option linter.all false
set_option maxRecDepth 100000
set_option maxHeartbeats 1000000
/-! The law of one right answer. -/
namespace K3
open PySem PySem.Spec PyProof.Rows L2 He KM
def spLo (G : Gs) : Sp := fun vs H Q _ => ∃ dl sa vc rp c rows, vs = [.ref dl, vc, .ref rp] ∧ Dr G H dl sa ∧ OkC c ∧ Rch c rows ∧ rows.length ≤ 60 ∧ DAt G H vc (dCh c) ∧ (∃ us, LL G H rp us rows) ∧ rp ≠ dl ∧ ∀ v H', SX dl H H' → DAt G H' v (.bl true) → Q v H'
/-- the heap without the counting list -/
def cut (H : Hp) (dl : Addr) : Hp := fun a => if a = dl then none else H a
theorem cut_same (H : Hp) (dl : Addr) : Same (cut H dl) H := fun a o h => by
  unfold cut at h
  split at h
  · cases h
  · exact h
theorem cut_dl (H : Hp) (dl : Addr) : cut H dl dl = none := if_pos rfl
theorem cut_ne {H : Hp} {dl a : Addr} (n : a ≠ dl) : cut H dl a = H a := if_neg n
theorem cut_le {H : Hp} {dl : Addr} (h : ∃ us, H dl = some (.lst us)) : Le H (cut H dl) := fun a o e f => by
  obtain ⟨us, hu⟩ := h
  by_cases q : a = dl
  · subst q; rw [hu] at e; cases e; cases f
  · rw [cut_ne q]; exact e
theorem imm_lks (c : Ch) : imm (dCh c) = true := by
  show imm (.tup (c.rows.map dLk)) = true
  rw [imm]
  exact immAll_iff.mpr fun d hd => by obtain ⟨y, _, rfl⟩ := List.mem_map.mp hd; exact imm_dLk y
section
variable {G : Gs} {H : Hp} {dl : Addr}
theorem LL.cut {l : Addr} {us : List V} {ds : List D} (h : LL G H l us ds) (n : l ≠ dl) (i : immAll ds = true) (hd : ∃ us, H dl = some (.lst us)) : LL G (cut H dl) l us ds := ⟨by rw [cut_ne n]; exact h.1, h.2.lm i (cut_le hd)⟩
theorem OL.cut {H0 : Hp} {l : Addr} {as : List Addr} {gs : List (List D)} (o : OL G H0 H l as gs) (n : l ≠ dl) (n2 : dl ∉ as) (i : ∀ g ∈ gs, immAll g = true) (hd : ∃ us, H dl = some (.lst us)) : OL G H0 (K3.cut H dl) l as gs :=
  ⟨by rw [cut_ne n]; exact o.at_, o.len, o.nd, o.ne, o.free, fun j b g hb hg => by
    obtain ⟨us, h1, h2⟩ := o.get j b g hb hg
    exact ⟨us, by rw [cut_ne (fun q => n2 (by rw [← q]; exact List.mem_of_getElem? hb))]; exact h1, h2.lm (i g (List.mem_of_getElem? hg)) (cut_le hd)⟩⟩
end
theorem q_parAny {σ : L2.St} {H : Hp} {ta : TA} {z : TS} {Dd : Ends} {i j : Nat} {P : V → V → Hp → Prop} (h : ∀ Q : List V → Hp → Prop, (∀ v w H1, P v w H1 → Q [v, w] H1) → ta σ H Q) (k : ∀ v w H1, P v w H1 → z Dd ((σ.set i (some v)).set j (some w)) H1) : tSeq (tPar i j ta) z Dd σ H := h _ fun v w H1 p => ⟨v, w, rfl, k v w H1 p⟩
theorem rd_notB {G : Gs} {a b : Bool} : RD2 G rNotU (.bl a) (.bl b) (.bl (!decide (a = b))) := fun H u v Q hu hv q => by
  cases hu; cases hv
  exact .inr ⟨a, b, rfl, rfl, q _ H (Same.refl H) (.bl _)⟩
section
variable {X : Cx} {C CC aS aT : Addr} {H : Hp} {vs : List V}
theorem p_Lone_right (F : Fp X.K C CC aS aT) {Q : VK} {E : XK} {Dd : Ends} (hD' : Dd.rt = Q) (h : spLo (gs X C) vs H Q E) : t_Lone_right X C CC aS aT (spCl (gs X C) CC) (spLg (gs X C)) (spD (gs X C) m_reached) (spSh (gs X C) CC) (spD (gs X C) m_parting) (spCi (gs X C) CC) (spPk (gs X C)) (spD (gs X C) m_does_part) Dd (start N_Lone_right vs) H := by
  obtain ⟨dl, sa, vc, rp, c, rows, rfl, dr, ok, hr, hl, hc, ⟨us, hrp⟩, nrp, q⟩ := h
  obtain ⟨hf, hH⟩ := exists_H hr
  refine q_parAny (P := fun v v9 H2 => ∃ gl as H1, v = .ref gl ∧ H gl = none ∧ Same H H1 ∧ OL (gs X C) H H1 gl as (clsC c rows) ∧ Same H1 H2 ∧ CO (gs X C) CC H2 v9 (clsC c rows) (kD (prs (clsC c rows).length)) (hD (prs (clsC c rows).length) hf))
    (fun Q' k' => ⟨vc, rfl, .ref rp, rfl, vc, .ref rp, c, rows, rfl, ok, hr, hl, hc, hrp.at, fun gl as H1 ng s1 ol => ⟨vc, rfl, c, rows, hf, vc, rfl, ok, hr, hl, hH, hc.mn s1, fun v9 H2 s2 co => k' _ _ H2 ⟨gl, as, H1, rfl, ng, s1, ol, s2, co⟩⟩⟩) fun vg v9 H2 hv => ?_
  obtain ⟨gl, as, H1, rfl, ng, s1, ol, s2, co⟩ := hv
  have wfr := hr.wf ok
  have wf : ∀ g ∈ clsC c rows, ∀ s ∈ g, WfS c s := fun g hg s hs => wfr s (cls_sub rows g hg s hs)
  have n60 : (clsC c rows).length ≤ 60 := Nat.le_trans (cls_size rows) hl
  have pl : (prs (clsC c rows).length).length ≤ 3600 := prs_len n60
  have s02 := s1.trans s2
  have ol2 := ol.mn s2
  have dr2 := dr.mn s02
  show tSeq (tIfS _ _ _) _ Dd [some (.ref dl), some vc, some (.ref rp), none, none, none, none, none, some (.ref gl), some v9, none, none, none, none, none] H2
  refine Evl.q_when (b := false) (Evl.et_is (Evl.et_or (et_test (ed_op (G := gs X C) (ed_call (dom := m_reached) (eda_cons (ed_var rfl (hc.mn s02)) eda_nil) ⟨c, rows, ok, hr, hl, rfl, rfl⟩) (ed_var rfl (hrp.mn s02).at) (rd_ne (cmp_lst wfr wfr))))
    fun _ => Evl.et_or (et_test (ed_op (G := gs X C) (ed_classes F.clsCC F.nClasses rfl co) (ed_var rfl ol2.at) (rd_ne (cmp_lls wf wf))))
    fun _ => et_test (ed_op (G := gs X C) (ed_shows (k := 1) (pk := prs (clsC c rows).length) (hf := hf) ⟨ok, hr, hl, wf, n60, prs_nd _, by omega, hH.ev⟩ (fun H3 s3 Q' k' => ⟨v9, rfl, k' v9 H3 (Same.refl H3) (co.mn s3)⟩) rfl (hc.mn s02)) ed_bl rd_notB)) (by
      rw [showM_true rfl (fun p hp => hp) hH, decide_eq_true rfl]
      show (false || (!decide (lls (clsC c rows) = D.lst ((clsC c rows).map D.lst)) || false)) = false
      rw [decide_eq_true (show lls (clsC c rows) = D.lst ((clsC c rows).map D.lst) from rfl)]
      rfl)) (fun e => by cases e) fun _ H3 s3 => ?_
  have s03 : Same H H3 := s02.trans s3
  refine q_setN (G := gs X C) (edn_lst eda_nil (by show 0 ≤ 100000; decide)) fun du us4 H4 ndu s4 hdu da => ?_
  cases da
  have ne := cls_ne (T := TwC c) rows
  have imDu : ∀ l : List Pr, immAll (dueL l hf) = true := fun l => immAll_iff.mpr fun d hd => by
    obtain ⟨p, _, rfl⟩ := List.mem_map.mp hd
    show immAll [dP p, dHi (hf p)] = true
    rw [immAll, immAll, immAll, imm_hi]; rfl
  have bound : ∀ i ≤ (clsC c rows).length, (prsTo (clsC c rows).length i).length ≤ 3600 := fun i hi => by
    have h1 := prsTo_len (clsC c rows).length i
    have h2 : i * (clsC c rows).length ≤ 60 * 60 := Nat.mul_le_mul (by omega) n60
    omega
  show tSeq (tFor _ _ _) _ Dd [some (.ref dl), some vc, some (.ref rp), some (.ref du), none, none, none, none, some (.ref gl), some v9, none, none, none, none, none] H4
  have hgl4 := (ol2.mn s3).mn s4
  have s34 : Same H3 H4 := s4
  refine (ed_cb (G := gs X C) (eda_cons (ed_var (σ := [some (.ref dl), some vc, some (.ref rp), some (.ref du), none, none, none, none, some (.ref gl), some v9, none, none, none, none, none]) rfl hgl4.at) eda_nil) rc_lenL) H4 (Same.refl H4) _ fun vn H5 s5 dn => ?_
  cases dn
  have e0 : (((clsC c rows).map D.lst).length : Int).toNat = (clsC c rows).length := by rw [List.length_map]; exact Int.toNat_natCast _
  refine ⟨_, rfl, by omega, by rw [List.length_map]; omega, ?_⟩
  rw [e0]
  refine for_range (lo := 0) (n := (clsC c rows).length) (fun i σ' H' => (∃ w4 w10 w12, σ' = [some (.ref dl), some vc, some (.ref rp), some (.ref du), w4, none, none, none, some (.ref gl), some v9, w10, none, w12, none, none]) ∧ Same H3 H' ∧ ∃ acc, H' du = some (.lst acc) ∧ DAll (gs X C) H' acc (dueL (prsTo (clsC c rows).length i) hf)) ⟨⟨none, none, none, rfl⟩, s4.trans s5, [], s5 _ _ hdu, .nil⟩ (fun i σ' H' hi p => ?_) (fun σ' H' p => ?_)
  · obtain ⟨⟨w4, w10, w12, rfl⟩, s', acc, ha, da⟩ := p
    have e1 : (0 : Int) + (i : Int) = (i : Int) := Int.zero_add _
    rw [e1]
    have hgl' := (ol2.mn s3).mn s'
    show tFor (iRng2 _) _ _ _ [some (.ref dl), some vc, some (.ref rp), some (.ref du), some (.int (i : Int)), none, none, none, some (.ref gl), some v9, w10, none, w12, none, none] H'
    have A : EdA (gs X C) (tCons (tOp (rAddU (gs X C)) (tVar 4) (tC (.int 1))) (tCons (tCB (rLenU (gs X C)) (tCons (tVar 8) tNil)) tNil)) [some (.ref dl), some vc, some (.ref rp), some (.ref du), some (.int (i : Int)), none, none, none, some (.ref gl), some v9, w10, none, w12, none, none] H' [.int ((i : Int) + 1), .int (((clsC c rows).map D.lst).length : Int)] := (eda_cons (G := gs X C) (ed_op (ed_var (i := 4) (σ := [some (.ref dl), some vc, some (.ref rp), some (.ref du), some (.int (i : Int)), none, none, none, some (.ref gl), some v9, w10, none, w12, none, none]) rfl (.int _)) ed_int rd_add) (eda_cons (ed_cb (r := rLenU (gs X C)) (eda_cons (ed_var (i := 8) rfl hgl'.at) eda_nil) rc_lenL) eda_nil))
    unfold tFor iRng2
    refine A H' (Same.refl H') _ fun us6 H6 s6 d6 => ?_
    obtain ⟨x1, x2, rfl, y1, y2⟩ := two_of d6
    cases y1
    cases y2
    rw [List.length_map]
    refine ⟨_, _, rfl, ⟨by omega, by omega, by omega, by omega⟩, ?_⟩
    have e2 : (((clsC c rows).length : Int) - ((i : Int) + 1)).toNat = (clsC c rows).length - (i + 1) := by omega
    rw [e2]
    refine for_range (lo := (i : Int) + 1) (n := (clsC c rows).length - (i + 1)) (fun j σ' H' => (∃ w10 w12, σ' = [some (.ref dl), some vc, some (.ref rp), some (.ref du), some (.int (i : Int)), none, none, none, some (.ref gl), some v9, w10, none, w12, none, none]) ∧ Same H3 H' ∧ ∃ acc, H' du = some (.lst acc) ∧ DAll (gs X C) H' acc (dueL (prsTo (clsC c rows).length i ++ (rowP (clsC c rows).length i).take j) hf)) ⟨⟨w10, w12, rfl⟩, s'.trans s6, acc, s6 _ _ ha, by rw [List.take_zero, List.append_nil]; exact da.mn s6⟩ (fun j σ' H' hj p => ?_) (fun σ' H' p => ?_)
    · obtain ⟨⟨w10, w12, rfl⟩, s', acc, ha, da⟩ := p
      have e3 : (i : Int) + 1 + (j : Int) = ((i + 1 + j : Nat) : Int) := by omega
      rw [e3]
      have er : (rowP (clsC c rows).length i)[j]? = some (i, i + 1 + j) := by unfold rowP; rw [List.getElem?_map, List.getElem?_range hj]; rfl
      have hm : ((i, i + 1 + j) : Pr) ∈ prs (clsC c rows).length := mem_prs.mpr ⟨by show i < i + 1 + j; omega, by show i + 1 + j < _; omega⟩
      obtain ⟨n, A⟩ := hH (i, i + 1 + j) hm
      obtain ⟨g1, a1, b1, c1, f1⟩ := headD_mem (i := i) (gs := clsC c rows) (by omega) ne
      obtain ⟨g2, a2, b2, c2, f2⟩ := headD_mem (i := i + 1 + j) (gs := clsC c rows) (by omega) ne
      have dgl := ((ol2.mn s3).mn s').at
      show tSeq (tAsg _ (gName 12)) _ _ [some (.ref dl), some vc, some (.ref rp), some (.ref du), some (.int (i : Int)), none, none, none, some (.ref gl), some v9, some (.int ((i + 1 + j : Nat) : Int)), none, w12, none, none] H'
      refine q_set (G := gs X C) (d := dHi (hf (i, i + 1 + j))) (ed_call (dom := m_parting) (eda_cons (ed_var rfl ((hc.mn s03).mn s')) (eda_cons (ed_op (ed_op (ed_var rfl dgl) (ed_var rfl (.int _)) (rd_ixL (atI_nat (by rw [List.getElem?_map, a1]; rfl)))) ed_int (rd_ixL (atI_nat (j := 0) b1))) (eda_cons (ed_op (ed_op (ed_var rfl dgl) (ed_var rfl (.int _)) (rd_ixL (atI_nat (by rw [List.getElem?_map, a2]; rfl)))) ed_int (rd_ixL (atI_nat (j := 0) b2))) eda_nil))) ⟨c, rows, _, _, n, some (hf (i, i + 1 + j)), ok, hr, hl, cls_sub rows g1 c1 _ f1, cls_sub rows g2 c2 _ f2, A, rfl, rfl⟩) fun v12 H7 s7 d12 => ?_
      have hb := bound i (by omega)
      have hrl := rowP_len (clsC c rows).length i
      have ha7 := s7 _ _ ha
      have da7 := da.mn s7
      have lenD : (dueL (prsTo (clsC c rows).length i ++ (rowP (clsC c rows).length i).take j) hf).length < 100000 := by unfold dueL; rw [List.length_map, List.length_append, List.length_take]; omega
      refine app_body (G := gs X C) (d := .tup [dP (i, i + 1 + j), dHi (hf (i, i + 1 + j))]) (σ := [some (.ref dl), some vc, some (.ref rp), some (.ref du), some (.int (i : Int)), none, none, none, some (.ref gl), some v9, some (.int ((i + 1 + j : Nat) : Int)), none, some v12, none, none]) rfl ha7 (by rw [da7.length]; exact lenD) (ed_tup (eda_cons (ed_tup (eda_cons (ed_var rfl (.int _)) (eda_cons (ed_var rfl (.int _)) eda_nil)) (by show 2 ≤ 100000; decide)) (eda_cons (ed_var rfl d12) eda_nil)) (by show 2 ≤ 100000; decide)) fun v H8 s8 dv => ?_
      have ha8 := s8 _ _ ha7
      have le : Le H8 (upd H8 du (.lst (acc ++ [v]))) := .wr fun u e f => by rw [ha8] at e; cases e; exact f
      refine ⟨⟨_, _, rfl⟩, ((s'.trans s7).trans s8).mut ndu, acc ++ [v], upd_same, ?_⟩
      rw [take_snoc er, ← List.append_assoc]
      unfold dueL
      rw [List.map_append]
      have imA : immAll (dueL [(i, i + 1 + j)] hf) = true := imDu _
      exact (((da7.mn s8).lm (imDu _) le).append (.cons (dv.le le (immAll_iff.mp imA _ List.mem_cons_self)) .nil))
    · obtain ⟨⟨w10, w12, rfl⟩, s', acc, ha, da⟩ := p
      refine ⟨⟨_, _, _, rfl⟩, s', acc, ha, ?_⟩
      rw [prsTo_succ]
      have el : (rowP (clsC c rows).length i).length = (clsC c rows).length - (i + 1) := by unfold rowP; rw [List.length_map, List.length_range]
      rw [← el, List.take_length] at da
      exact da
  · obtain ⟨⟨w4, w10, w12, rfl⟩, s', acc, ha, da⟩ := p
    have da : DAll (gs X C) H' acc (dueL (prs (clsC c rows).length) hf) := da
    have sH := s03.trans s'
    have dr' := dr.mn sH
    have ndl : ∀ p, H p = none → p ≠ dl := fun p hp e => by
      obtain ⟨u, hu⟩ := dr.lst
      rw [e, hu] at hp; cases hp
    have hdd := dr'.lst
    have wfi : ∀ g ∈ clsC c rows, immAll g = true := fun g hg => immAll_iff.mpr fun y hy => imm_kyd (wfS_kyd (wf g hg y hy))
    have imR : immAll rows = true := immAll_iff.mpr fun y hy => imm_kyd (wfS_kyd (wfr y hy))
    have nas : dl ∉ as := fun hm => by
      obtain ⟨u, hu⟩ := dr.lst
      have := ol.free dl hm
      rw [hu] at this; cases this
    have ndu' : du ≠ dl := ndl du (s03.free ndu)
    have ngl : gl ≠ dl := ndl gl ng
    have duc := (show LL (gs X C) H' du acc _ from ⟨ha, da⟩).cut ndu' (imDu _) hdd
    have olc := (((ol2.mn s3).mn s').cut ngl nas wfi hdd).at
    refine o3 F hD' (B := K3.cut H' dl) ⟨ok, hr, hl, hH, (hc.mn sH).le (cut_le hdd) (imm_lks c), ((hrp.mn sH).cut nrp imR hdd).at, duc.at, olc⟩ (cut_same H' dl) (cut_dl H' dl) dr' ⟨acc, ha, da⟩ ndu' ((co.mn s3).mn s') fun H9 v sB dv => q v H9 ⟨fun a o na hx => sB a o (by rw [cut_ne na]; exact sH a o hx), dr.lst⟩ dv
end
end K3

set_option Elab.async false
set_option linter.all false
set_option maxRecDepth 100000
set_option maxHeartbeats 1000000
/-! The law. -/
namespace K3
open PySem PySem.Spec PyProof.Rows L2 He KM
theorem rg_all : ∀ j : Nat, j < 17 → RgC 0 (j : Int) 4 ((j + 3) / 4) := by
  unfold RgC
  decide +kernel
def spLaw (G : Gs) : Sp := fun vs H Q _ => ∃ (a : Addr) (ns : List Int), vs = [.ref a] ∧ SqL G.K H a (ns.map V.int) ∧ ∀ H', Q (.bl true) H'
theorem rd_nn {G : Gs} {p : Addr} {ds : List D} : RD2 G rNotU (.lst ds) .non (.bl true) := fun H u v Q hu hv q => by
  cases hv
  cases hu with
  | lst _ _ => exact .inl ⟨rfl, q _ H (Same.refl H) (.bl true)⟩
theorem q_forC {G : Gs} {σ : L2.St} {H : Hp} {ta : TA} {g : TG} {tb z : TS} {Dd : Ends} {j n : Nat} (A : EdA G ta σ H [.int 0, .int (j : Int), .int 4]) (hn : RgC 0 (j : Int) 4 n) (Pv : Nat → L2.St → Hp → Prop) (h0 : ∀ H1, Same H H1 → Pv 0 σ H1)
    (hs : ∀ i σ' H', i < n → Pv i σ' H' → g (.int (0 + (i : Nat) * 4)) σ' H' fun σ2 H2 => tb { Dd with nx := Pv (i + 1), ct := Pv (i + 1), bk := z Dd } σ2 H2) (hd : ∀ σ' H', Pv n σ' H' → z Dd σ' H') : tSeq (tFor (iRng3 ta) g tb) z Dd σ H :=
  A H (Same.refl H) _ fun vs H1 s1 da => by
    obtain ⟨x, ws, rfl, d1, d2⟩ : ∃ x ws, vs = x :: ws ∧ DAt G H1 x (.int 0) ∧ DAll G H1 ws [.int (j : Int), .int 4] := by
      cases da with
      | cons h1 h2 => exact ⟨_, _, rfl, h1, h2⟩
    obtain ⟨y, w, rfl, d3, d4⟩ := two_of d2
    cases d1; cases d3; cases d4
    exact ⟨0, (j : Int), 4, n, rfl, hn, for_rangeC (D := { Dd with nx := z Dd }) Pv (h0 H1 s1) hs hd⟩
section
variable {X : Cx} {C CC aS aT : Addr} {H : Hp} {vs : List V}
theorem p_law {Q : VK} {E : XK} {Dd : Ends} (hD' : Dd.rt = Q) (h : spLaw (gs X C) vs H Q E) : t_law X C CC aS aT (spNx (gs X C)) (spLc (gs X C)) (spLr (gs X C)) (spLo (gs X C)) Dd (start N_law vs) H := by
  obtain ⟨a, ns, rfl, ha, q⟩ := h
  have hd : DAt (gs X C) H (.ref a) (.lst (ns.map .int)) := .lst ha (dall_nums ns)
  obtain ⟨j, hj1, hj2, A⟩ : ∃ j : Nat, 1 ≤ j ∧ j < 17 ∧ EdA (gs X C) (tCons (tC (.int 0)) (tCons (tCB rMaxU (tCons (tC (.int 1)) (tCons (tCB rMinU (tCons (tC (.int 16)) (tCons (tCB (rLenU (gs X C)) (tCons (tVar 0) tNil)) tNil))) tNil))) (tCons (tC (.int 4)) tNil))) (start N_law [.ref a]) H [.int 0, .int (j : Int), .int 4] := by
    refine ⟨max 1 (min 16 ns.length), by omega, by omega, eda_cons ed_int (eda_cons (Ed.is (ed_cb (eda_cons ed_int (eda_cons (ed_cb (eda_cons ed_int (eda_cons (ed_cb (eda_cons (ed_var rfl hd) eda_nil) rc_lenL) eda_nil)) rc_min2) eda_nil)) rc_max2) ?_) (eda_cons ed_int eda_nil))⟩
    congr 1
    rw [List.length_map]
    split <;> split <;> omega
  unfold t_law
  refine q_forC (j := j) A (rg_all j hj2) (fun i σ' H' => (∃ w1 w2 w3 w4, σ' = [some (.ref a), w1, w2, w3, w4]) ∧ Same H H') (fun H1 s1 => ⟨⟨none, none, none, none, rfl⟩, s1⟩) (fun i σ' H' hi p => ?_) (fun σ' H' p => ?_)
  · obtain ⟨⟨w1, w2, w3, w4, rfl⟩, s'⟩ := p
    have e0 : (0 : Int) + (i : Nat) * 4 = ((i * 4 : Nat) : Int) := by omega
    show tSeq (tAsg (tLst _) (gName 2)) _ _ [some (.ref a), some (.int (0 + (i : Nat) * 4)), w2, w3, w4] H'
    rw [e0]
    refine q_anyE (P := fun v H1 => ∃ p, v = .ref p ∧ H' p = none ∧ Same H' H1 ∧ Dr (gs X C) H1 p a) (fun Q' k => ?_) fun v H1 hv => ?_
    · refine ⟨.ref a, rfl, .int ((i * 4 : Nat) : Int), rfl, by show 3 ≤ sizeLine; decide, fun p np => k _ _ ⟨p, rfl, np, .new np, ns, i * 4, 0, upd_same, (s'.trans (.new np)).ls ha, ?_⟩⟩
      rcases ha with (h | ⟨o, h⟩) | h
      · exact .inl (ne_of_none (s' a _ h) np)
      · exact .inl (ne_of_none (s' a _ h) np)
      · exact .inr fun _ => .inr h
    obtain ⟨dl, rfl, ndl, s1, dr1⟩ := hv
    have nB : H dl = none := by
      cases e : H dl with
      | none => rfl
      | some o => rw [s' dl o e] at ndl; cases ndl
    show tSeq (tAsg (tCall _ _ _ _) (gName 3)) _ _ [some (.ref a), some (.int ((i * 4 : Nat) : Int)), some (.ref dl), w3, w4] H1
    refine q_anyE (P := fun v H2 => ∃ c, OkC c ∧ SX dl H1 H2 ∧ Dr (gs X C) H2 dl a ∧ DAt (gs X C) H2 v (dCh c)) (fun Q' k => ?_) fun v3 H2 hv => ?_
    · refine ⟨.ref dl, rfl, ?_⟩
      refine run_one (G := gs X C) (b := 2) (dl := dl) (sa := a) (fun Q'' k' => ?_) fun r H2 r1 r2 x2 dr2 => ?_
      · refine run_next (G := gs X C) (b := 5) (dl := dl) (sa := a) (σ := [some (.ref a), some (.int ((i * 4 : Nat) : Int)), some (.ref dl), w3, w4]) rfl dr1 (by decide) fun r H2 r0 r1 x2 dr2 => ?_
        exact ⟨r, 4, rfl, rfl, ⟨by decide, by decide⟩, k' (r / 4) H2 (by omega) (by omega) x2 dr2⟩
      · exact ⟨dl, a, r.toNat, by rw [Int.toNat_of_nonneg (by omega)]; rfl, dr2, by omega, by omega, fun c v H3 ok x3 dr3 dv => k v H3 ⟨c, ok, x2.tr x3, dr3, dv⟩⟩
    obtain ⟨c, ok, x2, dr2, hc⟩ := hv
    show tSeq (tAsg (tCall _ _ _ _) (gName 4)) _ _ [some (.ref a), some (.int ((i * 4 : Nat) : Int)), some (.ref dl), some v3, w4] H2
    have fin : ∀ H5, SX dl H1 H5 → Same H H5 := fun H5 x => x.same (s'.trans s1) nB
    refine q_anyE (P := fun v H3 => Same H2 H3 ∧ (v = .non ∨ ∃ rows p us, v = .ref p ∧ Rch c rows ∧ rows.length ≤ 24 ∧ H2 p = none ∧ LL (gs X C) H3 p us rows)) (fun Q' k => ?_) fun v4 H3 hv => ?_
    · exact ⟨v3, rfl, v3, c, 24, rfl, ok, by decide, by decide, hc, fun H3 s3 => k _ _ ⟨s3, .inl rfl⟩, fun rows p us H3 hr hl np s3 hL => k _ _ ⟨s3, .inr ⟨rows, p, us, rfl, hr, hl, np, hL⟩⟩⟩
    obtain ⟨s3, hv⟩ := hv
    show tIfS _ _ _ _ [some (.ref a), some (.int ((i * 4 : Nat) : Int)), some (.ref dl), some v3, some v4] H3
    have x3 : SX dl H1 H3 := x2.tr (SX.of dr2 s3)
    rcases hv with rfl | ⟨rows, p, us, rfl, hr, hl, np, hL⟩
    · refine ⟨.non, rfl, .inl ⟨rfl, ?_⟩⟩
      refine ⟨false, rfl, ?_⟩
      refine iteF (iteF ?_)
      exact ⟨⟨_, _, _, _, rfl⟩, fin H3 x3⟩
    · refine ⟨.ref p, rfl, ?_⟩
      refine rd_nn (G := gs X C) (p := p) (ds := rows) H3 (.ref p) .non _ hL.at .non fun H4 v s4 dv => ?_
      cases dv
      refine ⟨true, rfl, iteT ?_⟩
      have npd : p ≠ dl := fun e => by
        obtain ⟨u, hu⟩ := dr2.lst
        rw [e, hu] at np; cases np
      refine ⟨.ref dl, rfl, v3, rfl, .ref p, rfl, dl, a, v3, p, c, rows, rfl, (dr2.mn s3).mn s4, ok, hr, by omega, (hc.mn s3).mn s4, ⟨us, hL.mn s4⟩, npd, fun v H5 x5 dv => ?_⟩
      cases dv
      refine ⟨true, rfl, iteF ?_⟩
      exact ⟨⟨_, _, _, _, rfl⟩, fin H5 ((x3.tr (SX.of (dr2.mn s3) s4)).tr x5)⟩
  · obtain ⟨⟨w1, w2, w3, w4, rfl⟩, s'⟩ := p
    refine (sr_ret (G := gs X C) (ed_bl (b := true) (σ := [some (.ref a), w1, w2, w3, w4]))) _ H' (Same.refl H') fun v H5 s5 dv => ?_
    cases dv
    show Dd.rt _ _
    rw [hD']
    exact q H5
end
end K3

set_option Elab.async false
set_option linter.all false
set_option maxRecDepth 100000
set_option maxHeartbeats 2000000
/-! Every def keeps its promise (printed by gen_asm.py). -/
namespace K3
open PySem PySem.Spec PyProof.Rows L2 He KM
theorem gs_at {X : Cx} {P : Program} {w : World} {K : PySem.W.Frag} (C : Addr) (e1 : X.prog = P) (e2 : X.w = w) (e3 : X.K = K) : gs X C = ⟨P, w, K, C⟩ := by
  subst e1 e2 e3; rfl
theorem fnok_gen {P : Program} {w : World} {K : PySem.W.Frag} {mg : Str → Option Value} {base : Heap} {d : DefM} {fd : FuncData} {N ps : List Str} {k : Nat} {sp : Sp} {t : Cx → TS} (Fd : FunM K d fd) (S : FnScope N ps (defScope d.st))
    (len : ∀ vs H Q E, sp vs H Q E → vs.length = ps.length)
    (walk : ∀ (cdv : Value) (A : Around) (outer : List Env) (s : Shared) (H : Hp) (E : XK), Room k (XX P w K mg base d N (d.adr K) cdv A outer s H E).A → PSs (XX P w K mg base d N (d.adr K) cdv A outer s H E) (defBody d.st) (t (XX P w K mg base d N (d.adr K) cdv A outer s H E)))
    (pure : ∀ (X : Cx), X.prog = P → X.w = w → X.K = K → ∀ vs H Q E, sp vs H Q E → t X { nx := fun _ H' => Q .non H', rt := Q } (start N vs) H) :
    FnOk P w K mg base C8.CX0 (k + 1) (d.adr K) fd ps sp := by
  refine Fd.ok S len (fun cdv A outer s H vs Q E hr h => ⟨_, (walk cdv A outer s H E hr).nox, ?_⟩)
  exact pure (XX P w K mg base d N (d.adr K) cdv A outer s H E) rfl rfl rfl vs H Q E h
section
variable {P : Program} {w : World} {K : PySem.W.Frag} {mg : Str → Option Value} {base : Heap} {C CC aS aT : Addr} {fd : FuncData}
theorem cl_is_integer (F : Ft P w K mg base C CC aS aT) (Fd : FunM K d_is_integer fd) (hm : mg "is_integer" = some (.ref (d_is_integer.adr K)))  : C8.Cal P w K mg base 3 "is_integer" (spD ⟨P, w, K, C⟩ m_is_integer) [] :=
  cal_of (C := C) (d := d_is_integer) (N := N_is_integer) (ps := P_is_integer) (k := 2) (dom := m_is_integer) (t := (fun X => t_is_integer X C CC aS aT )) Fd sc_is_integer (Fd.bindsN (fun _ _ _ _ _ _ us hl => match us, hl with | [_, _, _], _ => rfl)) hm (fun ds r h => by obtain ⟨_, _, _, rfl, _⟩ := h; rfl) (fun cdv A outer s H E hr => w_is_integer F hr ) (fun X e1 e2 e3 ds r vs H m h => p_is_integer m h)
theorem cl_is_word (F : Ft P w K mg base C CC aS aT) (Fd : FunM K d_is_word fd) (hm : mg "is_word" = some (.ref (d_is_word.adr K)))  : C8.Cal P w K mg base 3 "is_word" (spD ⟨P, w, K, C⟩ m_is_word) [] :=
  cal_of (C := C) (d := d_is_word) (N := N_is_word) (ps := P_is_word) (k := 2) (dom := m_is_word) (t := (fun X => t_is_word X C CC aS aT )) Fd sc_is_word (Fd.bindsN (fun _ _ _ _ _ _ us hl => match us, hl with | [_, _], _ => rfl)) hm (fun ds r h => by obtain ⟨_, _, rfl, _⟩ := h; rfl) (fun cdv A outer s H E hr => w_is_word F hr ) (fun X e1 e2 e3 ds r vs H m h => p_is_word m h)
theorem cl_is_part (F : Ft P w K mg base C CC aS aT) (Fd : FunM K d_is_part fd) (hm : mg "is_part" = some (.ref (d_is_part.adr K))) (c_is_word : C8.Cal P w K mg base 3 "is_word" (spD ⟨P, w, K, C⟩ m_is_word) []) (c_is_integer : C8.Cal P w K mg base 3 "is_integer" (spD ⟨P, w, K, C⟩ m_is_integer) []) : C8.Cal P w K mg base 4 "is_part" (spD ⟨P, w, K, C⟩ m_is_part) [] :=
  cal_of (C := C) (d := d_is_part) (N := N_is_part) (ps := P_is_part) (k := 3) (dom := m_is_part) (t := (fun X => t_is_part X C CC aS aT (spD (gs X C) m_is_word) (spD (gs X C) m_is_integer))) Fd sc_is_part (Fd.bindsN (fun _ _ _ _ _ _ us hl => match us, hl with | [_], _ => rfl)) hm (fun ds r h => by obtain ⟨_, _, rfl, _⟩ := h; rfl) (fun cdv A outer s H E hr => w_is_part F hr c_is_word c_is_integer) (fun X e1 e2 e3 ds r vs H m h => p_is_part m h)
theorem cl_is_link (F : Ft P w K mg base C CC aS aT) (Fd : FunM K d_is_link fd) (hm : mg "is_link" = some (.ref (d_is_link.adr K))) (c_is_word : C8.Cal P w K mg base 3 "is_word" (spD ⟨P, w, K, C⟩ m_is_word) []) (c_is_part : C8.Cal P w K mg base 4 "is_part" (spD ⟨P, w, K, C⟩ m_is_part) []) : C8.Cal P w K mg base 5 "is_link" (spD ⟨P, w, K, C⟩ m_is_link) [] :=
  cal_of (C := C) (d := d_is_link) (N := N_is_link) (ps := P_is_link) (k := 4) (dom := m_is_link) (t := (fun X => t_is_link X C CC aS aT (spD (gs X C) m_is_word) (spD (gs X C) m_is_part))) Fd sc_is_link (Fd.bindsN (fun _ _ _ _ _ _ us hl => match us, hl with | [_], _ => rfl)) hm (fun ds r h => by obtain ⟨_, _, rfl, _⟩ := h; rfl) (fun cdv A outer s H E hr => w_is_link F hr c_is_word c_is_part) (fun X e1 e2 e3 ds r vs H m h => p_is_link (by rw [e3]; exact F.fp) m h)
theorem cl_check_chain (F : Ft P w K mg base C CC aS aT) (Fd : FunM K d_check_chain fd) (hm : mg "check_chain" = some (.ref (d_check_chain.adr K)))  : C8.Cal P w K mg base 3 "check_chain" (spD ⟨P, w, K, C⟩ m_check) [] :=
  cal_gen (d := d_check_chain) (N := N_check_chain) (ps := P_check_chain) (k := 2) (t := (fun X => t_check_chain X C CC aS aT )) Fd sc_check_chain (Fd.bindsN (fun _ _ _ _ _ _ us hl => match us, hl with | [_], _ => rfl)) hm (fun vs H Q E h => by obtain ⟨ds, r, h1, h2, _⟩ := h; rw [h1.length]; obtain ⟨_, rfl, _⟩ := h2; rfl) (fun cdv A outer s H E hr => w_check_chain F hr ) (fun X e1 e2 e3 vs H Q E h => by rw [← gs_at C e1 e2 e3] at h; obtain ⟨ds, r, h1, h2, q⟩ := h; exact p_check h2 h1 { nx := fun _ H' => Q .non H', rt := Q } H (Same.refl H) q)
theorem cl_events_of (F : Ft P w K mg base C CC aS aT) (Fd : FunM K d_events_of fd) (hm : mg "events_of" = some (.ref (d_events_of.adr K)))  : C8.Cal P w K mg base 3 "events_of" (spD ⟨P, w, K, C⟩ m_events) [] :=
  cal_of (C := C) (d := d_events_of) (N := N_events_of) (ps := P_events_of) (k := 2) (dom := m_events) (t := (fun X => t_events_of X C CC aS aT )) Fd sc_events_of (Fd.bindsN (fun _ _ _ _ _ _ us hl => match us, hl with | [_], _ => rfl)) hm (fun ds r h => by obtain ⟨_, _, rfl, _⟩ := h; rfl) (fun cdv A outer s H E hr => w_events_of F hr ) (fun X e1 e2 e3 ds r vs H m h => p_events (by rw [e3]; exact F.fp) m h)
theorem cl_first_of (F : Ft P w K mg base C CC aS aT) (Fd : FunM K d_first_of fd) (hm : mg "first_of" = some (.ref (d_first_of.adr K)))  : C8.Cal P w K mg base 3 "first_of" (spD ⟨P, w, K, C⟩ m_first_of) [] :=
  cal_of (C := C) (d := d_first_of) (N := N_first_of) (ps := P_first_of) (k := 2) (dom := m_first_of) (t := (fun X => t_first_of X C CC aS aT )) Fd sc_first_of (Fd.bindsN (fun _ _ _ _ _ _ us hl => match us, hl with | [_], _ => rfl)) hm (fun ds r h => by obtain ⟨_, rfl, _⟩ := h; rfl) (fun cdv A outer s H E hr => w_first_of F hr ) (fun X e1 e2 e3 ds r vs H m h => p_first_of m h)
theorem cl_ticked (F : Ft P w K mg base C CC aS aT) (Fd : FunM K d_ticked fd) (hm : mg "ticked" = some (.ref (d_ticked.adr K)))  : C8.Cal P w K mg base 3 "ticked" (spD ⟨P, w, K, C⟩ m_ticked) [] :=
  cal_of (C := C) (d := d_ticked) (N := N_ticked) (ps := P_ticked) (k := 2) (dom := m_ticked) (t := (fun X => t_ticked X C CC aS aT )) Fd sc_ticked (Fd.bindsN (fun _ _ _ _ _ _ us hl => match us, hl with | [_, _], _ => rfl)) hm (fun ds r h => by obtain ⟨_, _, _, _, rfl, _⟩ := h; rfl) (fun cdv A outer s H E hr => w_ticked F hr ) (fun X e1 e2 e3 ds r vs H m h => p_ticked m h)
theorem cl_does_let (F : Ft P w K mg base C CC aS aT) (Fd : FunM K d_does_let fd) (hm : mg "does_let" = some (.ref (d_does_let.adr K)))  : C8.Cal P w K mg base 3 "does_let" (spD ⟨P, w, K, C⟩ m_does_let) [] :=
  cal_of (C := C) (d := d_does_let) (N := N_does_let) (ps := P_does_let) (k := 2) (dom := m_does_let) (t := (fun X => t_does_let X C CC aS aT )) Fd sc_does_let (Fd.bindsN (fun _ _ _ _ _ _ us hl => match us, hl with | [_, _], _ => rfl)) hm (fun ds r h => by obtain ⟨_, _, _, _, rfl, _⟩ := h; rfl) (fun cdv A outer s H E hr => w_does_let F hr ) (fun X e1 e2 e3 ds r vs H m h => p_does_let m h)
theorem cl_counted (F : Ft P w K mg base C CC aS aT) (Fd : FunM K d_counted fd) (hm : mg "counted" = some (.ref (d_counted.adr K)))  : C8.Cal P w K mg base 3 "counted" (spD ⟨P, w, K, C⟩ m_counted) [] :=
  cal_of (C := C) (d := d_counted) (N := N_counted) (ps := P_counted) (k := 2) (dom := m_counted) (t := (fun X => t_counted X C CC aS aT )) Fd sc_counted (Fd.bindsN (fun _ _ _ _ _ _ us hl => match us, hl with | [_, _], _ => rfl)) hm (fun ds r h => by obtain ⟨_, _, _, _, rfl, _⟩ := h; rfl) (fun cdv A outer s H E hr => w_counted F hr ) (fun X e1 e2 e3 ds r vs H m h => p_counted m h)
theorem cl_first_state (F : Ft P w K mg base C CC aS aT) (Fd : FunM K d_first_state fd) (hm : mg "first_state" = some (.ref (d_first_state.adr K))) (c_first_of : C8.Cal P w K mg base 3 "first_of" (spD ⟨P, w, K, C⟩ m_first_of) []) : C8.Cal P w K mg base 4 "first_state" (spD ⟨P, w, K, C⟩ m_first_state) [] :=
  cal_of (C := C) (d := d_first_state) (N := N_first_state) (ps := P_first_state) (k := 3) (dom := m_first_state) (t := (fun X => t_first_state X C CC aS aT (spD (gs X C) m_first_of))) Fd sc_first_state (Fd.bindsN (fun _ _ _ _ _ _ us hl => match us, hl with | [_], _ => rfl)) hm (fun ds r h => by obtain ⟨_, _, rfl, _⟩ := h; rfl) (fun cdv A outer s H E hr => w_first_state F hr c_first_of) (fun X e1 e2 e3 ds r vs H m h => p_first_state (by rw [e3]; exact F.fp) m h)
theorem cl_after_tick (F : Ft P w K mg base C CC aS aT) (Fd : FunM K d_after_tick fd) (hm : mg "after_tick" = some (.ref (d_after_tick.adr K))) (c_ticked : C8.Cal P w K mg base 3 "ticked" (spD ⟨P, w, K, C⟩ m_ticked) []) : C8.Cal P w K mg base 4 "after_tick" (spD ⟨P, w, K, C⟩ m_after_tick) [] :=
  cal_of (C := C) (d := d_after_tick) (N := N_after_tick) (ps := P_after_tick) (k := 3) (dom := m_after_tick) (t := (fun X => t_after_tick X C CC aS aT (spD (gs X C) m_ticked))) Fd sc_after_tick (Fd.bindsN (fun _ _ _ _ _ _ us hl => match us, hl with | [_, _], _ => rfl)) hm (fun ds r h => by obtain ⟨_, _, _, _, rfl, _⟩ := h; rfl) (fun cdv A outer s H E hr => w_after_tick F hr c_ticked) (fun X e1 e2 e3 ds r vs H m h => p_after_tick (by rw [e3]; exact F.fp) m h)
theorem cl_lets_at (F : Ft P w K mg base C CC aS aT) (Fd : FunM K d_lets_at fd) (hm : mg "lets_at" = some (.ref (d_lets_at.adr K))) (c_does_let : C8.Cal P w K mg base 3 "does_let" (spD ⟨P, w, K, C⟩ m_does_let) []) : C8.Cal P w K mg base 4 "lets_at" (spD ⟨P, w, K, C⟩ m_lets_at) [] :=
  cal_of (C := C) (d := d_lets_at) (N := N_lets_at) (ps := P_lets_at) (k := 3) (dom := m_lets_at) (t := (fun X => t_lets_at X C CC aS aT (spD (gs X C) m_does_let))) Fd sc_lets_at (Fd.bindsN (fun _ _ _ _ _ _ us hl => match us, hl with | [_, _, _, _], _ => rfl)) hm (fun ds r h => by obtain ⟨_, _, _, _, _, _, _, _, _, rfl, _⟩ := h; rfl) (fun cdv A outer s H E hr => w_lets_at F hr c_does_let) (fun X e1 e2 e3 ds r vs H m h => p_lets_at (by rw [e3]; exact F.fp) m h)
theorem cl_counted_at (F : Ft P w K mg base C CC aS aT) (Fd : FunM K d_counted_at fd) (hm : mg "counted_at" = some (.ref (d_counted_at.adr K))) (c_counted : C8.Cal P w K mg base 3 "counted" (spD ⟨P, w, K, C⟩ m_counted) []) : C8.Cal P w K mg base 4 "counted_at" (spD ⟨P, w, K, C⟩ m_counted_at) [] :=
  cal_of (C := C) (d := d_counted_at) (N := N_counted_at) (ps := P_counted_at) (k := 3) (dom := m_counted_at) (t := (fun X => t_counted_at X C CC aS aT (spD (gs X C) m_counted))) Fd sc_counted_at (Fd.bindsN (fun _ _ _ _ _ _ us hl => match us, hl with | [_, _, _, _], _ => rfl)) hm (fun ds r h => by obtain ⟨_, _, _, _, _, _, _, _, _, rfl, _⟩ := h; rfl) (fun cdv A outer s H E hr => w_counted_at F hr c_counted) (fun X e1 e2 e3 ds r vs H m h => p_counted_at (by rw [e3]; exact F.fp) m h)
theorem cl_answer_at (F : Ft P w K mg base C CC aS aT) (Fd : FunM K d_answer_at fd) (hm : mg "answer_at" = some (.ref (d_answer_at.adr K))) (c_lets_at : C8.Cal P w K mg base 4 "lets_at" (spD ⟨P, w, K, C⟩ m_lets_at) []) : C8.Cal P w K mg base 5 "answer_at" (spD ⟨P, w, K, C⟩ m_answer_at) [] :=
  cal_of (C := C) (d := d_answer_at) (N := N_answer_at) (ps := P_answer_at) (k := 4) (dom := m_answer_at) (t := (fun X => t_answer_at X C CC aS aT (spD (gs X C) m_lets_at))) Fd sc_answer_at (Fd.bindsN (fun _ _ _ _ _ _ us hl => match us, hl with | [_, _, _], _ => rfl)) hm (fun ds r h => by obtain ⟨_, _, _, _, _, _, rfl, _⟩ := h; rfl) (fun cdv A outer s H E hr => w_answer_at F hr c_lets_at) (fun X e1 e2 e3 ds r vs H m h => p_answer_at (by rw [e3]; exact F.fp) m h)
theorem cl_after_ask (F : Ft P w K mg base C CC aS aT) (Fd : FunM K d_after_ask fd) (hm : mg "after_ask" = some (.ref (d_after_ask.adr K))) (c_answer_at : C8.Cal P w K mg base 5 "answer_at" (spD ⟨P, w, K, C⟩ m_answer_at) []) (c_lets_at : C8.Cal P w K mg base 4 "lets_at" (spD ⟨P, w, K, C⟩ m_lets_at) []) (c_counted_at : C8.Cal P w K mg base 4 "counted_at" (spD ⟨P, w, K, C⟩ m_counted_at) []) : C8.Cal P w K mg base 6 "after_ask" (spD ⟨P, w, K, C⟩ m_after_ask) [] :=
  cal_of (C := C) (d := d_after_ask) (N := N_after_ask) (ps := P_after_ask) (k := 5) (dom := m_after_ask) (t := (fun X => t_after_ask X C CC aS aT (spD (gs X C) m_answer_at) (spD (gs X C) m_lets_at) (spD (gs X C) m_counted_at))) Fd sc_after_ask (Fd.bindsN (fun _ _ _ _ _ _ us hl => match us, hl with | [_, _, _], _ => rfl)) hm (fun ds r h => by obtain ⟨_, _, _, _, _, _, rfl, _⟩ := h; rfl) (fun cdv A outer s H E hr => w_after_ask F hr c_answer_at c_lets_at c_counted_at) (fun X e1 e2 e3 ds r vs H m h => p_after_ask (by rw [e3]; exact F.fp) m h)
theorem cl_after_event (F : Ft P w K mg base C CC aS aT) (Fd : FunM K d_after_event fd) (hm : mg "after_event" = some (.ref (d_after_event.adr K))) (c_after_tick : C8.Cal P w K mg base 4 "after_tick" (spD ⟨P, w, K, C⟩ m_after_tick) []) (c_after_ask : C8.Cal P w K mg base 6 "after_ask" (spD ⟨P, w, K, C⟩ m_after_ask) []) : C8.Cal P w K mg base 7 "after_event" (spD ⟨P, w, K, C⟩ m_after_event) [] :=
  cal_of (C := C) (d := d_after_event) (N := N_after_event) (ps := P_after_event) (k := 6) (dom := m_after_event) (t := (fun X => t_after_event X C CC aS aT (spD (gs X C) m_after_tick) (spD (gs X C) m_after_ask))) Fd sc_after_event (Fd.bindsN (fun _ _ _ _ _ _ us hl => match us, hl with | [_, _, _], _ => rfl)) hm (fun ds r h => by obtain ⟨_, _, _, _, _, _, rfl, _⟩ := h; rfl) (fun cdv A outer s H E hr => w_after_event F hr c_after_tick c_after_ask) (fun X e1 e2 e3 ds r vs H m h => p_after_event (by rw [e3]; exact F.fp) m h)
theorem cl_reached (F : Ft P w K mg base C CC aS aT) (Fd : FunM K d_reached fd) (hm : mg "reached" = some (.ref (d_reached.adr K))) (c_first_state : C8.Cal P w K mg base 4 "first_state" (spD ⟨P, w, K, C⟩ m_first_state) []) (c_events_of : C8.Cal P w K mg base 3 "events_of" (spD ⟨P, w, K, C⟩ m_events) []) (c_after_event : C8.Cal P w K mg base 7 "after_event" (spD ⟨P, w, K, C⟩ m_after_event) []) : C8.Cal P w K mg base 8 "reached" (spD ⟨P, w, K, C⟩ m_reached) [] :=
  cal_of (C := C) (d := d_reached) (N := N_reached) (ps := P_reached) (k := 7) (dom := m_reached) (t := (fun X => t_reached X C CC aS aT (spD (gs X C) m_first_state) (spD (gs X C) m_events) (spD (gs X C) m_after_event))) Fd sc_reached (Fd.bindsN (fun _ _ _ _ _ _ us hl => match us, hl with | [_], _ => rfl)) hm (fun ds r h => by obtain ⟨_, _, _, _, _, rfl, _⟩ := h; rfl) (fun cdv A outer s H E hr => w_reached F hr c_first_state c_events_of c_after_event) (fun X e1 e2 e3 ds r vs H m h => p_reached m h)
theorem cl_states (F : Ft P w K mg base C CC aS aT) (Fd : FunM K d_states fd) (hm : mg "states" = some (.ref (d_states.adr K))) (c_check_chain : C8.Cal P w K mg base 3 "check_chain" (spD ⟨P, w, K, C⟩ m_check) []) (c_reached : C8.Cal P w K mg base 8 "reached" (spD ⟨P, w, K, C⟩ m_reached) []) : C8.Cal P w K mg base 9 "states" (spD ⟨P, w, K, C⟩ m_reached) [] :=
  cal_of (C := C) (d := d_states) (N := N_states) (ps := P_states) (k := 8) (dom := m_reached) (t := (fun X => t_states X C CC aS aT (spD (gs X C) m_check) (spD (gs X C) m_reached))) Fd sc_states (Fd.bindsN (fun _ _ _ _ _ _ us hl => match us, hl with | [_], _ => rfl)) hm (fun ds r h => by obtain ⟨_, _, _, _, _, rfl, _⟩ := h; rfl) (fun cdv A outer s H E hr => w_states F hr c_check_chain c_reached) (fun X e1 e2 e3 ds r vs H m h => p_states m h)
theorem cl_grouped (F : Ft P w K mg base C CC aS aT) (Fd : FunM K d_grouped fd) (hm : mg "grouped" = some (.ref (d_grouped.adr K)))  : C8.Cal P w K mg base 3 "grouped" (spD ⟨P, w, K, C⟩ m_grouped) [] :=
  cal_of (C := C) (d := d_grouped) (N := N_grouped) (ps := P_grouped) (k := 2) (dom := m_grouped) (t := (fun X => t_grouped X C CC aS aT )) Fd sc_grouped (Fd.bindsN (fun _ _ _ _ _ _ us hl => match us, hl with | [_], _ => rfl)) hm (fun ds r h => by unfold m_grouped at h; obtain ⟨_, _, _, _, _, _, rfl, _⟩ := h; rfl) (fun cdv A outer s H E hr => w_grouped F hr ) (fun X e1 e2 e3 ds r vs H m h => p_grouped m h)
theorem cl_looked (F : Ft P w K mg base C CC aS aT) (Fd : FunM K d_looked fd) (hm : mg "looked" = some (.ref (d_looked.adr K))) (c_after_event : C8.Cal P w K mg base 7 "after_event" (spD ⟨P, w, K, C⟩ m_after_event) []) : C8.Cal P w K mg base 8 "looked" (spD ⟨P, w, K, C⟩ m_looked) [] :=
  cal_of (C := C) (d := d_looked) (N := N_looked) (ps := P_looked) (k := 7) (dom := m_looked) (t := (fun X => t_looked X C CC aS aT (spD (gs X C) m_after_event))) Fd sc_looked (Fd.bindsN (fun _ _ _ _ _ _ us hl => match us, hl with | [_, _, _, _], _ => rfl)) hm (fun ds r h => by obtain ⟨_, _, _, _, _, _, _, _, _, _, rfl, _⟩ := h; rfl) (fun cdv A outer s H E hr => w_looked F hr c_after_event) (fun X e1 e2 e3 ds r vs H m h => p_looked m h)
theorem cl_key_of (F : Ft P w K mg base C CC aS aT) (Fd : FunM K d_key_of fd) (hm : mg "key_of" = some (.ref (d_key_of.adr K))) (c_events_of : C8.Cal P w K mg base 3 "events_of" (spD ⟨P, w, K, C⟩ m_events) []) (c_looked : C8.Cal P w K mg base 8 "looked" (spD ⟨P, w, K, C⟩ m_looked) []) : C8.Cal P w K mg base 9 "key_of" (spD ⟨P, w, K, C⟩ m_key_of) [] :=
  cal_of (C := C) (d := d_key_of) (N := N_key_of) (ps := P_key_of) (k := 8) (dom := m_key_of) (t := (fun X => t_key_of X C CC aS aT (spD (gs X C) m_events) (spD (gs X C) m_looked))) Fd sc_key_of (Fd.bindsN (fun _ _ _ _ _ _ us hl => match us, hl with | [_, _, _], _ => rfl)) hm (fun ds r h => by obtain ⟨_, _, _, _, _, _, _, _, _, rfl, _⟩ := h; rfl) (fun cdv A outer s H E hr => w_key_of F hr c_events_of c_looked) (fun X e1 e2 e3 ds r vs H m h => p_key_of m h)
theorem cl_groups_of (F : Ft P w K mg base C CC aS aT) (Fd : FunM K d_groups_of fd) (hm : mg "groups_of" = some (.ref (d_groups_of.adr K))) (c_key_of : C8.Cal P w K mg base 9 "key_of" (spD ⟨P, w, K, C⟩ m_key_of) []) (c_grouped : C8.Cal P w K mg base 3 "grouped" (spD ⟨P, w, K, C⟩ m_grouped) []) : C8.Cal P w K mg base 10 "groups_of" (spG ⟨P, w, K, C⟩) [] :=
  cal_gen (d := d_groups_of) (N := N_groups_of) (ps := P_groups_of) (k := 9) (t := (fun X => t_groups_of X C CC aS aT (spD (gs X C) m_key_of) (spD (gs X C) m_grouped))) Fd sc_groups_of (Fd.bindsN (fun _ _ _ _ _ _ us hl => match us, hl with | [_, _], _ => rfl)) hm (fun vs H Q E h => by obtain ⟨_, _, _, _, _, h, _⟩ := h; rw [h.length]; rfl) (fun cdv A outer s H E hr => w_groups_of F hr c_key_of c_grouped) (fun X e1 e2 e3 vs H Q E h => by rw [← gs_at C e1 e2 e3] at h; exact p_groups_of (X := X) (C := C) rfl h)
theorem cl_listed (F : Ft P w K mg base C CC aS aT) (Fd : FunM K d_listed fd) (hm : mg "listed" = some (.ref (d_listed.adr K))) (c_reached : C8.Cal P w K mg base 8 "reached" (spD ⟨P, w, K, C⟩ m_reached) []) (c_groups_of : C8.Cal P w K mg base 10 "groups_of" (spG ⟨P, w, K, C⟩) []) : C8.Cal P w K mg base 11 "listed" (spD ⟨P, w, K, C⟩ m_listed) [] :=
  cal_of (C := C) (d := d_listed) (N := N_listed) (ps := P_listed) (k := 10) (dom := m_listed) (t := (fun X => t_listed X C CC aS aT (spD (gs X C) m_reached) (spG (gs X C)))) Fd sc_listed (Fd.bindsN (fun _ _ _ _ _ _ us hl => match us, hl with | [_], _ => rfl)) hm (fun ds r h => by obtain ⟨_, _, _, _, _, rfl, _⟩ := h; rfl) (fun cdv A outer s H E hr => w_listed F hr c_reached c_groups_of) (fun X e1 e2 e3 ds r vs H m h => p_listed m h)
theorem cl_does_part (F : Ft P w K mg base C CC aS aT) (Fd : FunM K d_does_part fd) (hm : mg "does_part" = some (.ref (d_does_part.adr K))) (c_after_event : C8.Cal P w K mg base 7 "after_event" (spD ⟨P, w, K, C⟩ m_after_event) []) : C8.Cal P w K mg base 8 "does_part" (spD ⟨P, w, K, C⟩ m_does_part) [] :=
  cal_of (C := C) (d := d_does_part) (N := N_does_part) (ps := P_does_part) (k := 7) (dom := m_does_part) (t := (fun X => t_does_part X C CC aS aT (spD (gs X C) m_after_event))) Fd sc_does_part (Fd.bindsN (fun _ _ _ _ _ _ us hl => match us, hl with | [_, _, _, _], _ => rfl)) hm (fun ds r h => by obtain ⟨_, _, _, _, _, _, _, _, rfl, _⟩ := h; rfl) (fun cdv A outer s H E hr => w_does_part F hr c_after_event) (fun X e1 e2 e3 ds r vs H m h => p_does_part m h)
theorem cl_parting_of (F : Ft P w K mg base C CC aS aT) (Fd : FunM K d_parting_of fd) (hm : mg "parting_of" = some (.ref (d_parting_of.adr K))) (c_events_of : C8.Cal P w K mg base 3 "events_of" (spD ⟨P, w, K, C⟩ m_events) []) (c_after_event : C8.Cal P w K mg base 7 "after_event" (spD ⟨P, w, K, C⟩ m_after_event) []) : C8.Cal P w K mg base 8 "parting_of" (spD ⟨P, w, K, C⟩ m_parting) [] :=
  cal_of (C := C) (d := d_parting_of) (N := N_parting_of) (ps := P_parting_of) (k := 7) (dom := m_parting) (t := (fun X => t_parting_of X C CC aS aT (spD (gs X C) m_events) (spD (gs X C) m_after_event))) Fd sc_parting_of (Fd.bindsN (fun _ _ _ _ _ _ us hl => match us, hl with | [_, _, _], _ => rfl)) hm (fun ds r h => by unfold m_parting at h; obtain ⟨_, _, _, _, _, _, _, _, _, _, _, _, rfl, _⟩ := h; rfl) (fun cdv A outer s H E hr => w_parting_of F hr c_events_of c_after_event) (fun X e1 e2 e3 ds r vs H m h => p_parting m h)
theorem cl_pairs_of (F : Ft P w K mg base C CC aS aT) (Fd : FunM K d_pairs_of fd) (hm : mg "pairs_of" = some (.ref (d_pairs_of.adr K)))  : C8.Cal P w K mg base 3 "pairs_of" (spD ⟨P, w, K, C⟩ m_pairs) [] :=
  cal_of (C := C) (d := d_pairs_of) (N := N_pairs_of) (ps := P_pairs_of) (k := 2) (dom := m_pairs) (t := (fun X => t_pairs_of X C CC aS aT )) Fd sc_pairs_of (Fd.bindsN (fun _ _ _ _ _ _ us hl => match us, hl with | [_], _ => rfl)) hm (fun ds r h => by obtain ⟨_, _, rfl, _⟩ := h; rfl) (fun cdv A outer s H E hr => w_pairs_of F hr ) (fun X e1 e2 e3 ds r vs H m h => p_pairs m h)
theorem fo_Classes_init (F : Ft P w K mg base C CC aS aT) (Fd : FunM K d_Classes_init fd)  : FnOk P w K mg base C8.CX0 3 (d_Classes_init.adr K) fd P_Classes_init (spCi ⟨P, w, K, C⟩ CC) :=
  fnok_gen (d := d_Classes_init) (N := N_Classes_init) (ps := P_Classes_init) (k := 2) (t := (fun X => t_Classes_init X C CC aS aT )) Fd sc_Classes_init (fun vs H Q E h => by obtain ⟨_, _, _, _, _, _, _, rfl, _⟩ := h; rfl) (fun cdv A outer s H E hr => w_Classes_init F hr ) (fun X e1 e2 e3 vs H Q E h => by rw [← gs_at C e1 e2 e3] at h; exact p_Classes_init (X := X) (C := C) (by rw [e3]; exact F.fp) (fun _ _ q => q) h)
theorem fo_Classes_shows (F : Ft P w K mg base C CC aS aT) (Fd : FunM K d_Classes_shows fd) (c_check_chain : C8.Cal P w K mg base 3 "check_chain" (spD ⟨P, w, K, C⟩ m_check) []) (c_listed : C8.Cal P w K mg base 11 "listed" (spD ⟨P, w, K, C⟩ m_listed) []) (c_pairs_of : C8.Cal P w K mg base 3 "pairs_of" (spD ⟨P, w, K, C⟩ m_pairs) []) (c_does_part : C8.Cal P w K mg base 8 "does_part" (spD ⟨P, w, K, C⟩ m_does_part) []) : FnOk P w K mg base C8.CX0 12 (d_Classes_shows.adr K) fd P_Classes_shows (spSh ⟨P, w, K, C⟩ CC) :=
  fnok_gen (d := d_Classes_shows) (N := N_Classes_shows) (ps := P_Classes_shows) (k := 11) (t := (fun X => t_Classes_shows X C CC aS aT (spD (gs X C) m_check) (spD (gs X C) m_listed) (spD (gs X C) m_pairs) (spD (gs X C) m_does_part))) Fd sc_Classes_shows (fun vs H Q E h => by obtain ⟨_, _, _, _, _, _, _, rfl, _⟩ := h; rfl) (fun cdv A outer s H E hr => w_Classes_shows F hr c_check_chain c_listed c_pairs_of c_does_part) (fun X e1 e2 e3 vs H Q E h => by rw [← gs_at C e1 e2 e3] at h; obtain ⟨v, vc, c, rows, gs0, pk, hf, rfl, o, h1, h2, q⟩ := h; exact p_shows (by rw [e3]; exact F.fp) o h1 h2 { nx := fun _ H' => Q .non H', rt := Q } H (Same.refl H) q)
theorem cl_classes (F : Ft P w K mg base C CC aS aT) (Fd : FunM K d_classes fd) (hm : mg "classes" = some (.ref (d_classes.adr K))) (c_check_chain : C8.Cal P w K mg base 3 "check_chain" (spD ⟨P, w, K, C⟩ m_check) []) (c_listed : C8.Cal P w K mg base 11 "listed" (spD ⟨P, w, K, C⟩ m_listed) []) (c_pairs_of : C8.Cal P w K mg base 3 "pairs_of" (spD ⟨P, w, K, C⟩ m_pairs) []) (c_parting_of : C8.Cal P w K mg base 8 "parting_of" (spD ⟨P, w, K, C⟩ m_parting) []) (c_Classes_init : C8.Mak P w K mg base 3 "Classes" CC (spCi ⟨P, w, K, C⟩ CC) []) : C8.Cal P w K mg base 12 "classes" (spCl ⟨P, w, K, C⟩ CC) [] :=
  cal_gen (d := d_classes) (N := N_classes) (ps := P_classes) (k := 11) (t := (fun X => t_classes X C CC aS aT (spD (gs X C) m_check) (spD (gs X C) m_listed) (spD (gs X C) m_pairs) (spD (gs X C) m_parting) (spCi (gs X C) CC))) Fd sc_classes (Fd.bindsN (fun _ _ _ _ _ _ us hl => match us, hl with | [_], _ => rfl)) hm (fun vs H Q E h => by obtain ⟨_, _, _, _, rfl, _⟩ := h; rfl) (fun cdv A outer s H E hr => w_classes F hr c_check_chain c_listed c_pairs_of c_parting_of c_Classes_init) (fun X e1 e2 e3 vs H Q E h => by rw [← gs_at C e1 e2 e3] at h; exact p_classes (X := X) (C := C) rfl h)
theorem fo_Chain_init (F : Ft P w K mg base C CC aS aT) (Fd : FunM K d_Chain_init fd) (c_is_link : C8.Cal P w K mg base 5 "is_link" (spD ⟨P, w, K, C⟩ m_is_link) []) (c_is_integer : C8.Cal P w K mg base 3 "is_integer" (spD ⟨P, w, K, C⟩ m_is_integer) []) : FnOk P w K mg base C8.CX0 6 (d_Chain_init.adr K) fd P_Chain_init (spCh ⟨P, w, K, C⟩) :=
  fnok_gen (d := d_Chain_init) (N := N_Chain_init) (ps := P_Chain_init) (k := 5) (t := (fun X => t_Chain_init X C CC aS aT (spD (gs X C) m_is_link) (spD (gs X C) m_is_integer))) Fd sc_Chain_init (fun vs H Q E h => by obtain ⟨_, _, _, _, rfl, _⟩ := h; rfl) (fun cdv A outer s H E hr => w_Chain_init F hr c_is_link c_is_integer) (fun X e1 e2 e3 vs H Q E h => by rw [← gs_at C e1 e2 e3] at h; exact p_Chain_init (X := X) (C := C) (by rw [e3]; exact F.fp) (fun _ _ q => q) h)
theorem cl_Lcell_at (F : Ft P w K mg base C CC aS aT) (Fd : FunM K d_Lcell_at fd) (hm : mg "_law_cell_at" = some (.ref (d_Lcell_at.adr K)))  : C8.Cal P w K mg base 3 "_law_cell_at" (spD ⟨P, w, K, C⟩ m_cell) [] :=
  cal_of (C := C) (d := d_Lcell_at) (N := N_Lcell_at) (ps := P_Lcell_at) (k := 2) (dom := m_cell) (t := (fun X => t_Lcell_at X C CC aS aT )) Fd sc_Lcell_at (Fd.bindsN (fun _ _ _ _ _ _ us hl => match us, hl with | [_, _], _ => rfl)) hm (fun ds r h => by obtain ⟨_, _, rfl, _⟩ := h; rfl) (fun cdv A outer s H E hr => w_Lcell_at F hr ) (fun X e1 e2 e3 ds r vs H m h => p_Lcell m h)
theorem cl_Ldraw (F : Ft P w K mg base C CC aS aT) (Fd : FunM K d_Ldraw fd) (hm : mg "_law_draw" = some (.ref (d_Ldraw.adr K)))  : C8.Cal P w K mg base 3 "_law_draw" (spD ⟨P, w, K, C⟩ m_draw) [] :=
  cal_of (C := C) (d := d_Ldraw) (N := N_Ldraw) (ps := P_Ldraw) (k := 2) (dom := m_draw) (t := (fun X => t_Ldraw X C CC aS aT )) Fd sc_Ldraw (Fd.bindsN (fun _ _ _ _ _ _ us hl => match us, hl with | [_, _, _], _ => rfl)) hm (fun ds r h => by obtain ⟨_, _, _, _, rfl, _⟩ := h; rfl) (fun cdv A outer s H E hr => w_Ldraw F hr ) (fun X e1 e2 e3 ds r vs H m h => p_Ldraw m h)
theorem cl_Lnumber (F : Ft P w K mg base C CC aS aT) (Fd : FunM K d_Lnumber fd) (hm : mg "_law_number" = some (.ref (d_Lnumber.adr K))) (c_Ldraw : C8.Cal P w K mg base 3 "_law_draw" (spD ⟨P, w, K, C⟩ m_draw) []) : C8.Cal P w K mg base 4 "_law_number" (spD ⟨P, w, K, C⟩ m_num) [] :=
  cal_of (C := C) (d := d_Lnumber) (N := N_Lnumber) (ps := P_Lnumber) (k := 3) (dom := m_num) (t := (fun X => t_Lnumber X C CC aS aT (spD (gs X C) m_draw))) Fd sc_Lnumber (Fd.bindsN (fun _ _ _ _ _ _ us hl => match us, hl with | [_, _, _], _ => rfl)) hm (fun ds r h => by obtain ⟨_, _, _, _, _, _, rfl, _⟩ := h; rfl) (fun cdv A outer s H E hr => w_Lnumber F hr c_Ldraw) (fun X e1 e2 e3 ds r vs H m h => p_Lnumber m h)
theorem cl_Lnext (F : Ft P w K mg base C CC aS aT) (Fd : FunM K d_Lnext fd) (hm : mg "_law_next" = some (.ref (d_Lnext.adr K))) (c_Lcell_at : C8.Cal P w K mg base 3 "_law_cell_at" (spD ⟨P, w, K, C⟩ m_cell) []) (c_Lnumber : C8.Cal P w K mg base 4 "_law_number" (spD ⟨P, w, K, C⟩ m_num) []) : C8.Cal P w K mg base 5 "_law_next" (spNx ⟨P, w, K, C⟩) [] :=
  cal_gen (d := d_Lnext) (N := N_Lnext) (ps := P_Lnext) (k := 4) (t := (fun X => t_Lnext X C CC aS aT (spD (gs X C) m_cell) (spD (gs X C) m_num))) Fd sc_Lnext (Fd.bindsN (fun _ _ _ _ _ _ us hl => match us, hl with | [_, _], _ => rfl)) hm (fun vs H Q E h => by obtain ⟨_, _, _, rfl, _⟩ := h; rfl) (fun cdv A outer s H E hr => w_Lnext F hr c_Lcell_at c_Lnumber) (fun X e1 e2 e3 vs H Q E h => by rw [← gs_at C e1 e2 e3] at h; exact p_Lnext (X := X) (C := C) rfl h)
theorem cl_Lpick (F : Ft P w K mg base C CC aS aT) (Fd : FunM K d_Lpick fd) (hm : mg "_law_pick" = some (.ref (d_Lpick.adr K))) (c_Lnext : C8.Cal P w K mg base 5 "_law_next" (spNx ⟨P, w, K, C⟩) []) : C8.Cal P w K mg base 6 "_law_pick" (spPk ⟨P, w, K, C⟩) [] :=
  cal_gen (d := d_Lpick) (N := N_Lpick) (ps := P_Lpick) (k := 5) (t := (fun X => t_Lpick X C CC aS aT (spNx (gs X C)))) Fd sc_Lpick (Fd.bindsN (fun _ _ _ _ _ _ us hl => match us, hl with | [_, _], _ => rfl)) hm (fun vs H Q E h => by obtain ⟨_, _, _, _, rfl, _⟩ := h; rfl) (fun cdv A outer s H E hr => w_Lpick F hr c_Lnext) (fun X e1 e2 e3 vs H Q E h => by rw [← gs_at C e1 e2 e3] at h; exact p_Lpick (X := X) (C := C) rfl h)
theorem cl_Llink (F : Ft P w K mg base C CC aS aT) (Fd : FunM K d_Llink fd) (hm : mg "_law_link" = some (.ref (d_Llink.adr K))) (c_Lnext : C8.Cal P w K mg base 5 "_law_next" (spNx ⟨P, w, K, C⟩) []) (c_Lpick : C8.Cal P w K mg base 6 "_law_pick" (spPk ⟨P, w, K, C⟩) []) : C8.Cal P w K mg base 7 "_law_link" (spLk ⟨P, w, K, C⟩) [] :=
  cal_gen (d := d_Llink) (N := N_Llink) (ps := P_Llink) (k := 6) (t := (fun X => t_Llink X C CC aS aT (spNx (gs X C)) (spPk (gs X C)))) Fd sc_Llink (Fd.bindsN (fun _ _ _ _ _ _ us hl => match us, hl with | [_, _], _ => rfl)) hm (fun vs H Q E h => by obtain ⟨_, _, rfl, _⟩ := h; rfl) (fun cdv A outer s H E hr => w_Llink F hr c_Lnext c_Lpick) (fun X e1 e2 e3 vs H Q E h => by rw [← gs_at C e1 e2 e3] at h; exact p_Llink (X := X) (C := C) rfl h)
theorem cl_Lchain (F : Ft P w K mg base C CC aS aT) (Fd : FunM K d_Lchain fd) (hm : mg "_law_chain" = some (.ref (d_Lchain.adr K))) (c_Lnext : C8.Cal P w K mg base 5 "_law_next" (spNx ⟨P, w, K, C⟩) []) (c_Llink : C8.Cal P w K mg base 7 "_law_link" (spLk ⟨P, w, K, C⟩) []) (c_Chain_init : MakK P w K mg base 6 "Chain" C (spCh ⟨P, w, K, C⟩)) : C8.Cal P w K mg base 8 "_law_chain" (spLc ⟨P, w, K, C⟩) [] :=
  cal_gen (d := d_Lchain) (N := N_Lchain) (ps := P_Lchain) (k := 7) (t := (fun X => t_Lchain X C CC aS aT (spNx (gs X C)) (spLk (gs X C)) (spCh (gs X C)))) Fd sc_Lchain (Fd.bindsN (fun _ _ _ _ _ _ us hl => match us, hl with | [_, _, _], _ => rfl)) hm (fun vs H Q E h => by obtain ⟨_, _, _, rfl, _⟩ := h; rfl) (fun cdv A outer s H E hr => w_Lchain F hr c_Lnext c_Llink c_Chain_init) (fun X e1 e2 e3 vs H Q E h => by rw [← gs_at C e1 e2 e3] at h; exact p_Lchain (X := X) (C := C) rfl h)
theorem cl_Levents (F : Ft P w K mg base C CC aS aT) (Fd : FunM K d_Levents fd) (hm : mg "_law_events" = some (.ref (d_Levents.adr K)))  : C8.Cal P w K mg base 3 "_law_events" (spN ⟨P, w, K, C⟩ m_evN) [] :=
  cal_gen (d := d_Levents) (N := N_Levents) (ps := P_Levents) (k := 2) (t := (fun X => t_Levents X C CC aS aT )) Fd sc_Levents (Fd.bindsN (fun _ _ _ _ _ _ us hl => match us, hl with | [_], _ => rfl)) hm (fun vs H Q E h => by obtain ⟨ds, r, h1, h2, _⟩ := h; rw [h1.length]; obtain ⟨_, _, rfl, _⟩ := h2; rfl) (fun cdv A outer s H E hr => w_Levents F hr ) (fun X e1 e2 e3 vs H Q E h => by rw [← gs_at C e1 e2 e3] at h; exact p_LevN (X := X) (C := C) rfl h)
theorem cl_Lnew (F : Ft P w K mg base C CC aS aT) (Fd : FunM K d_Lnew fd) (hm : mg "_law_new" = some (.ref (d_Lnew.adr K)))  : C8.Cal P w K mg base 3 "_law_new" (spD ⟨P, w, K, C⟩ m_first_of) [] :=
  cal_of (C := C) (d := d_Lnew) (N := N_Lnew) (ps := P_Lnew) (k := 2) (dom := m_first_of) (t := (fun X => t_Lnew X C CC aS aT )) Fd sc_Lnew (Fd.bindsN (fun _ _ _ _ _ _ us hl => match us, hl with | [_], _ => rfl)) hm (fun ds r h => by obtain ⟨_, rfl, _⟩ := h; rfl) (fun cdv A outer s H E hr => w_Lnew F hr ) (fun X e1 e2 e3 ds r vs H m h => p_Lnew m h)
theorem cl_Lstart (F : Ft P w K mg base C CC aS aT) (Fd : FunM K d_Lstart fd) (hm : mg "_law_start" = some (.ref (d_Lstart.adr K))) (c_Lnew : C8.Cal P w K mg base 3 "_law_new" (spD ⟨P, w, K, C⟩ m_first_of) []) : C8.Cal P w K mg base 4 "_law_start" (spD ⟨P, w, K, C⟩ m_first_state) [] :=
  cal_of (C := C) (d := d_Lstart) (N := N_Lstart) (ps := P_Lstart) (k := 3) (dom := m_first_state) (t := (fun X => t_Lstart X C CC aS aT (spD (gs X C) m_first_of))) Fd sc_Lstart (Fd.bindsN (fun _ _ _ _ _ _ us hl => match us, hl with | [_], _ => rfl)) hm (fun ds r h => by obtain ⟨_, _, rfl, _⟩ := h; rfl) (fun cdv A outer s H E hr => w_Lstart F hr c_Lnew) (fun X e1 e2 e3 ds r vs H m h => p_Lstart m h)
theorem cl_Lolder (F : Ft P w K mg base C CC aS aT) (Fd : FunM K d_Lolder fd) (hm : mg "_law_older" = some (.ref (d_Lolder.adr K)))  : C8.Cal P w K mg base 3 "_law_older" (spD ⟨P, w, K, C⟩ m_ticked) [] :=
  cal_of (C := C) (d := d_Lolder) (N := N_Lolder) (ps := P_Lolder) (k := 2) (dom := m_ticked) (t := (fun X => t_Lolder X C CC aS aT )) Fd sc_Lolder (Fd.bindsN (fun _ _ _ _ _ _ us hl => match us, hl with | [_, _], _ => rfl)) hm (fun ds r h => by obtain ⟨_, _, _, _, rfl, _⟩ := h; rfl) (fun cdv A outer s H E hr => w_Lolder F hr ) (fun X e1 e2 e3 ds r vs H m h => p_Lolder m h)
theorem cl_Lroom (F : Ft P w K mg base C CC aS aT) (Fd : FunM K d_Lroom fd) (hm : mg "_law_room" = some (.ref (d_Lroom.adr K)))  : C8.Cal P w K mg base 3 "_law_room" (spD ⟨P, w, K, C⟩ m_does_let) [] :=
  cal_of (C := C) (d := d_Lroom) (N := N_Lroom) (ps := P_Lroom) (k := 2) (dom := m_does_let) (t := (fun X => t_Lroom X C CC aS aT )) Fd sc_Lroom (Fd.bindsN (fun _ _ _ _ _ _ us hl => match us, hl with | [_, _], _ => rfl)) hm (fun ds r h => by obtain ⟨_, _, _, _, rfl, _⟩ := h; rfl) (fun cdv A outer s H E hr => w_Lroom F hr ) (fun X e1 e2 e3 ds r vs H m h => p_Lroom m h)
theorem cl_Lmore (F : Ft P w K mg base C CC aS aT) (Fd : FunM K d_Lmore fd) (hm : mg "_law_more" = some (.ref (d_Lmore.adr K)))  : C8.Cal P w K mg base 3 "_law_more" (spD ⟨P, w, K, C⟩ m_counted) [] :=
  cal_of (C := C) (d := d_Lmore) (N := N_Lmore) (ps := P_Lmore) (k := 2) (dom := m_counted) (t := (fun X => t_Lmore X C CC aS aT )) Fd sc_Lmore (Fd.bindsN (fun _ _ _ _ _ _ us hl => match us, hl with | [_, _], _ => rfl)) hm (fun ds r h => by obtain ⟨_, _, _, _, rfl, _⟩ := h; rfl) (fun cdv A outer s H E hr => w_Lmore F hr ) (fun X e1 e2 e3 ds r vs H m h => p_Lmore m h)
theorem cl_Ltick (F : Ft P w K mg base C CC aS aT) (Fd : FunM K d_Ltick fd) (hm : mg "_law_tick" = some (.ref (d_Ltick.adr K))) (c_Lolder : C8.Cal P w K mg base 3 "_law_older" (spD ⟨P, w, K, C⟩ m_ticked) []) : C8.Cal P w K mg base 4 "_law_tick" (spD ⟨P, w, K, C⟩ m_after_tick) [] :=
  cal_of (C := C) (d := d_Ltick) (N := N_Ltick) (ps := P_Ltick) (k := 3) (dom := m_after_tick) (t := (fun X => t_Ltick X C CC aS aT (spD (gs X C) m_ticked))) Fd sc_Ltick (Fd.bindsN (fun _ _ _ _ _ _ us hl => match us, hl with | [_, _], _ => rfl)) hm (fun ds r h => by obtain ⟨_, _, _, _, rfl, _⟩ := h; rfl) (fun cdv A outer s H E hr => w_Ltick F hr c_Lolder) (fun X e1 e2 e3 ds r vs H m h => p_Ltick m h)
theorem cl_Lask (F : Ft P w K mg base C CC aS aT) (Fd : FunM K d_Lask fd) (hm : mg "_law_ask" = some (.ref (d_Lask.adr K))) (c_Lroom : C8.Cal P w K mg base 3 "_law_room" (spD ⟨P, w, K, C⟩ m_does_let) []) (c_Lmore : C8.Cal P w K mg base 3 "_law_more" (spD ⟨P, w, K, C⟩ m_counted) []) : C8.Cal P w K mg base 4 "_law_ask" (spD ⟨P, w, K, C⟩ m_after_ask) [] :=
  cal_of (C := C) (d := d_Lask) (N := N_Lask) (ps := P_Lask) (k := 3) (dom := m_after_ask) (t := (fun X => t_Lask X C CC aS aT (spD (gs X C) m_does_let) (spD (gs X C) m_counted))) Fd sc_Lask (Fd.bindsN (fun _ _ _ _ _ _ us hl => match us, hl with | [_, _, _], _ => rfl)) hm (fun ds r h => by obtain ⟨_, _, _, _, _, _, rfl, _⟩ := h; rfl) (fun cdv A outer s H E hr => w_Lask F hr c_Lroom c_Lmore) (fun X e1 e2 e3 ds r vs H m h => p_Lask m h)
theorem cl_Lstep (F : Ft P w K mg base C CC aS aT) (Fd : FunM K d_Lstep fd) (hm : mg "_law_step" = some (.ref (d_Lstep.adr K))) (c_Ltick : C8.Cal P w K mg base 4 "_law_tick" (spD ⟨P, w, K, C⟩ m_after_tick) []) (c_Lask : C8.Cal P w K mg base 4 "_law_ask" (spD ⟨P, w, K, C⟩ m_after_ask) []) : C8.Cal P w K mg base 5 "_law_step" (spD ⟨P, w, K, C⟩ m_after_event) [] :=
  cal_of (C := C) (d := d_Lstep) (N := N_Lstep) (ps := P_Lstep) (k := 4) (dom := m_after_event) (t := (fun X => t_Lstep X C CC aS aT (spD (gs X C) m_after_tick) (spD (gs X C) m_after_ask))) Fd sc_Lstep (Fd.bindsN (fun _ _ _ _ _ _ us hl => match us, hl with | [_, _, _], _ => rfl)) hm (fun ds r h => by obtain ⟨_, _, _, _, _, _, rfl, _⟩ := h; rfl) (fun cdv A outer s H E hr => w_Lstep F hr c_Ltick c_Lask) (fun X e1 e2 e3 ds r vs H m h => p_Lstep m h)
theorem cl_Lreached (F : Ft P w K mg base C CC aS aT) (Fd : FunM K d_Lreached fd) (hm : mg "_law_reached" = some (.ref (d_Lreached.adr K))) (c_Lstart : C8.Cal P w K mg base 4 "_law_start" (spD ⟨P, w, K, C⟩ m_first_state) []) (c_Levents : C8.Cal P w K mg base 3 "_law_events" (spN ⟨P, w, K, C⟩ m_evN) []) (c_Lstep : C8.Cal P w K mg base 5 "_law_step" (spD ⟨P, w, K, C⟩ m_after_event) []) : C8.Cal P w K mg base 6 "_law_reached" (spLr ⟨P, w, K, C⟩) [] :=
  cal_gen (d := d_Lreached) (N := N_Lreached) (ps := P_Lreached) (k := 5) (t := (fun X => t_Lreached X C CC aS aT (spD (gs X C) m_first_state) (spN (gs X C) m_evN) (spD (gs X C) m_after_event))) Fd sc_Lreached (Fd.bindsN (fun _ _ _ _ _ _ us hl => match us, hl with | [_, _], _ => rfl)) hm (fun vs H Q E h => by obtain ⟨_, _, _, rfl, _⟩ := h; rfl) (fun cdv A outer s H E hr => w_Lreached F hr c_Lstart c_Levents c_Lstep) (fun X e1 e2 e3 vs H Q E h => by rw [← gs_at C e1 e2 e3] at h; exact p_Lreached (X := X) (C := C) rfl h)
theorem cl_Lapart (F : Ft P w K mg base C CC aS aT) (Fd : FunM K d_Lapart fd) (hm : mg "_law_apart" = some (.ref (d_Lapart.adr K))) (c_Levents : C8.Cal P w K mg base 3 "_law_events" (spN ⟨P, w, K, C⟩ m_evN) []) (c_Lstep : C8.Cal P w K mg base 5 "_law_step" (spD ⟨P, w, K, C⟩ m_after_event) []) : C8.Cal P w K mg base 6 "_law_apart" (spD ⟨P, w, K, C⟩ m_parting) [] :=
  cal_of (C := C) (d := d_Lapart) (N := N_Lapart) (ps := P_Lapart) (k := 5) (dom := m_parting) (t := (fun X => t_Lapart X C CC aS aT (spN (gs X C) m_evN) (spD (gs X C) m_after_event))) Fd sc_Lapart (Fd.bindsN (fun _ _ _ _ _ _ us hl => match us, hl with | [_, _, _], _ => rfl)) hm (fun ds r h => by unfold m_parting at h; obtain ⟨_, _, _, _, _, _, _, _, _, _, _, _, rfl, _⟩ := h; rfl) (fun cdv A outer s H E hr => w_Lapart F hr c_Levents c_Lstep) (fun X e1 e2 e3 ds r vs H m h => p_Lapart m h)
theorem cl_Lspeaks (F : Ft P w K mg base C CC aS aT) (Fd : FunM K d_Lspeaks fd) (hm : mg "_law_speaks" = some (.ref (d_Lspeaks.adr K))) (c_Lstep : C8.Cal P w K mg base 5 "_law_step" (spD ⟨P, w, K, C⟩ m_after_event) []) : C8.Cal P w K mg base 6 "_law_speaks" (spD ⟨P, w, K, C⟩ m_does_part) [] :=
  cal_of (C := C) (d := d_Lspeaks) (N := N_Lspeaks) (ps := P_Lspeaks) (k := 5) (dom := m_does_part) (t := (fun X => t_Lspeaks X C CC aS aT (spD (gs X C) m_after_event))) Fd sc_Lspeaks (Fd.bindsN (fun _ _ _ _ _ _ us hl => match us, hl with | [_, _, _, _], _ => rfl)) hm (fun ds r h => by obtain ⟨_, _, _, _, _, _, _, _, rfl, _⟩ := h; rfl) (fun cdv A outer s H E hr => w_Lspeaks F hr c_Lstep) (fun X e1 e2 e3 ds r vs H m h => p_Lspeaks m h)
theorem cl_Lgroups (F : Ft P w K mg base C CC aS aT) (Fd : FunM K d_Lgroups fd) (hm : mg "_law_groups" = some (.ref (d_Lgroups.adr K))) (c_Lapart : C8.Cal P w K mg base 6 "_law_apart" (spD ⟨P, w, K, C⟩ m_parting) []) : C8.Cal P w K mg base 7 "_law_groups" (spLg ⟨P, w, K, C⟩) [] :=
  cal_gen (d := d_Lgroups) (N := N_Lgroups) (ps := P_Lgroups) (k := 6) (t := (fun X => t_Lgroups X C CC aS aT (spD (gs X C) m_parting))) Fd sc_Lgroups (Fd.bindsN (fun _ _ _ _ _ _ us hl => match us, hl with | [_, _], _ => rfl)) hm (fun vs H Q E h => by obtain ⟨_, _, _, _, rfl, _⟩ := h; rfl) (fun cdv A outer s H E hr => w_Lgroups F hr c_Lapart) (fun X e1 e2 e3 vs H Q E h => by rw [← gs_at C e1 e2 e3] at h; exact p_Lgroups (X := X) (C := C) rfl h)
theorem cl_Lone_right (F : Ft P w K mg base C CC aS aT) (Fd : FunM K d_Lone_right fd) (hm : mg "_law_one_right" = some (.ref (d_Lone_right.adr K))) (c_classes : C8.Cal P w K mg base 12 "classes" (spCl ⟨P, w, K, C⟩ CC) []) (c_Lgroups : C8.Cal P w K mg base 7 "_law_groups" (spLg ⟨P, w, K, C⟩) []) (c_states : C8.Cal P w K mg base 9 "states" (spD ⟨P, w, K, C⟩ m_reached) []) (c_Classes_shows : C8.Met P w K mg base 12 CC "shows" (spSh ⟨P, w, K, C⟩ CC) []) (c_Lapart : C8.Cal P w K mg base 6 "_law_apart" (spD ⟨P, w, K, C⟩ m_parting) []) (c_Classes_init : C8.Mak P w K mg base 3 "Classes" CC (spCi ⟨P, w, K, C⟩ CC) []) (c_Lpick : C8.Cal P w K mg base 6 "_law_pick" (spPk ⟨P, w, K, C⟩) []) (c_Lspeaks : C8.Cal P w K mg base 6 "_law_speaks" (spD ⟨P, w, K, C⟩ m_does_part) []) : C8.Cal P w K mg base 13 "_law_one_right" (spLo ⟨P, w, K, C⟩) [] :=
  cal_gen (d := d_Lone_right) (N := N_Lone_right) (ps := P_Lone_right) (k := 12) (t := (fun X => t_Lone_right X C CC aS aT (spCl (gs X C) CC) (spLg (gs X C)) (spD (gs X C) m_reached) (spSh (gs X C) CC) (spD (gs X C) m_parting) (spCi (gs X C) CC) (spPk (gs X C)) (spD (gs X C) m_does_part))) Fd sc_Lone_right (Fd.bindsN (fun _ _ _ _ _ _ us hl => match us, hl with | [_, _, _], _ => rfl)) hm (fun vs H Q E h => by obtain ⟨_, _, _, _, _, _, rfl, _⟩ := h; rfl) (fun cdv A outer s H E hr => w_Lone_right F hr c_classes c_Lgroups c_states c_Classes_shows c_Lapart c_Classes_init c_Lpick c_Lspeaks) (fun X e1 e2 e3 vs H Q E h => by rw [← gs_at C e1 e2 e3] at h; exact p_Lone_right (X := X) (C := C) (by rw [e3]; exact F.fp) rfl h)
theorem fo_law (F : Ft P w K mg base C CC aS aT) (Fd : FunM K d_law fd) (c_Lnext : C8.Cal P w K mg base 5 "_law_next" (spNx ⟨P, w, K, C⟩) []) (c_Lchain : C8.Cal P w K mg base 8 "_law_chain" (spLc ⟨P, w, K, C⟩) []) (c_Lreached : C8.Cal P w K mg base 6 "_law_reached" (spLr ⟨P, w, K, C⟩) []) (c_Lone_right : C8.Cal P w K mg base 13 "_law_one_right" (spLo ⟨P, w, K, C⟩) []) : FnOk P w K mg base C8.CX0 14 (d_law.adr K) fd P_law (spLaw ⟨P, w, K, C⟩) :=
  fnok_gen (d := d_law) (N := N_law) (ps := P_law) (k := 13) (t := (fun X => t_law X C CC aS aT (spNx (gs X C)) (spLc (gs X C)) (spLr (gs X C)) (spLo (gs X C)))) Fd sc_law (fun vs H Q E h => by obtain ⟨_, _, rfl, _⟩ := h; rfl) (fun cdv A outer s H E hr => w_law F hr c_Lnext c_Lchain c_Lreached c_Lone_right) (fun X e1 e2 e3 vs H Q E h => by rw [← gs_at C e1 e2 e3] at h; exact p_law (X := X) (C := C) rfl h)
end
end K3

set_option Elab.async false
set_option linter.all false
set_option maxRecDepth 100000
set_option maxHeartbeats 2000000
/-! The facts of the top, and the law's def (printed by gen_asm.py). -/
namespace K3
open PySem PySem.Spec PyProof.Rows L2 He KM
section
variable {P : Program} {w : World} {K : PySem.W.Frag} {h : Heap} {mg : Str → Option Value} {base : Heap}
theorem hasI {x : Str} {i : Int} (X : K.In h) (G : h.Ns mainGlobals mg) (c : (Fa.int x i).ok K = true) : HasV mg x (.int i) := by
  obtain ⟨t, e⟩ := int_ok X G c
  exact ⟨_, e, t, rfl⟩
theorem hasG {x : Str} (X : K.In h) (G : h.Ns mainGlobals mg) (c : (Fa.glo x).ok K = true) : HasV mg x (.ref (ga K x)) := ⟨_, glo_ok X G c, rfl⟩
theorem ft_of (X : K.In h) (G : h.Ns mainGlobals mg) (c : SaysM faL exL fnL K) : Ft P w K mg base (ga K "Chain") (ga K "Classes") (ga K "SCOPES") (ga K "TICK") := by
  have cC : Cls K (ga K "Chain") := cls_ok (c.fact 74 (f := .cls "Chain") rfl)
  have n_rows : NoAttr K (ga K "Chain") "rows" := noat_ok (c.fact 79 (f := .noat "Chain" "rows") rfl)
  have n_folk : NoAttr K (ga K "Chain") "folk" := noat_ok (c.fact 80 (f := .noat "Chain" "folk") rfl)
  have n_costly : NoAttr K (ga K "Chain") "costly" := noat_ok (c.fact 81 (f := .noat "Chain" "costly") rfl)
  have p_links : Prp P w K mg base 1 (ga K "Chain") "links" (getSp (ga K "Chain") "rows") := by
    obtain ⟨fd, Fd⟩ := c.def_ 5 (d := d_Chain_links) rfl
    have b : Binds K fd ["self"] [] := Fd.bindsN (fun _ _ _ _ _ _ us hl => match us, hl with | [_], _ => rfl)
    obtain ⟨oc, od, dV, kV, doc, pm, an, cdv, ct, osl, rfl, lk, hcd, hD, hK⟩ := Fd.ex
    exact ⟨_, _, _, _, cC, propB_ok (c.more 2 rfl), fn_getter (k := 0) (N := ["self"]) lk hcd ⟨rfl, rfl, rfl, by decide +kernel, rfl, by decide +kernel, by decide +kernel⟩ rfl rfl cC n_rows, b⟩
  have p_callers : Prp P w K mg base 1 (ga K "Chain") "callers" (getSp (ga K "Chain") "folk") := by
    obtain ⟨fd, Fd⟩ := c.def_ 6 (d := d_Chain_callers) rfl
    have b : Binds K fd ["self"] [] := Fd.bindsN (fun _ _ _ _ _ _ us hl => match us, hl with | [_], _ => rfl)
    obtain ⟨oc, od, dV, kV, doc, pm, an, cdv, ct, osl, rfl, lk, hcd, hD, hK⟩ := Fd.ex
    exact ⟨_, _, _, _, cC, propB_ok (c.more 3 rfl), fn_getter (k := 0) (N := ["self"]) lk hcd ⟨rfl, rfl, rfl, by decide +kernel, rfl, by decide +kernel, by decide +kernel⟩ rfl rfl cC n_folk, b⟩
  have p_charges : Prp P w K mg base 1 (ga K "Chain") "charges" (getSp (ga K "Chain") "costly") := by
    obtain ⟨fd, Fd⟩ := c.def_ 7 (d := d_Chain_charges) rfl
    have b : Binds K fd ["self"] [] := Fd.bindsN (fun _ _ _ _ _ _ us hl => match us, hl with | [_], _ => rfl)
    obtain ⟨oc, od, dV, kV, doc, pm, an, cdv, ct, osl, rfl, lk, hcd, hD, hK⟩ := Fd.ex
    exact ⟨_, _, _, _, cC, propB_ok (c.more 4 rfl), fn_getter (k := 0) (N := ["self"]) lk hcd ⟨rfl, rfl, rfl, by decide +kernel, rfl, by decide +kernel, by decide +kernel⟩ rfl rfl cC n_costly, b⟩
  exact {
    isinstance := free_ok X G (c.fact 53 (f := .free "isinstance") rfl)
    len := free_ok X G (c.fact 58 (f := .free "len") rfl)
    all := free_ok X G (c.fact 59 (f := .free "all") rfl)
    range := free_ok X G (c.fact 60 (f := .free "range") rfl)
    zip := free_ok X G (c.fact 61 (f := .free "zip") rfl)
    enumerate := free_ok X G (c.fact 62 (f := .free "enumerate") rfl)
    min := free_ok X G (c.fact 63 (f := .free "min") rfl)
    max := free_ok X G (c.fact 64 (f := .free "max") rfl)
    int := free_ok X G (c.fact 54 (f := .free "int") rfl)
    bool := free_ok X G (c.fact 55 (f := .free "bool") rfl)
    str := free_ok X G (c.fact 56 (f := .free "str") rfl)
    tuple := free_ok X G (c.fact 57 (f := .free "tuple") rfl)
    list := free_ok X G (c.fact 65 (f := .free "list") rfl)
    dict := free_ok X G (c.fact 66 (f := .free "dict") rfl)
    MAX_LIMIT := hasI X G (c.fact 67 (f := .int "MAX_LIMIT" 4) rfl)
    MAX_SPAN := hasI X G (c.fact 68 (f := .int "MAX_SPAN" 6) rfl)
    MAX_LINKS := hasI X G (c.fact 69 (f := .int "MAX_LINKS" 3) rfl)
    MAX_CALLERS := hasI X G (c.fact 70 (f := .int "MAX_CALLERS" 2) rfl)
    MAX_STATES := hasI X G (c.fact 71 (f := .int "MAX_STATES" 60) rfl)
    SCOPES := hasG X G (c.fact 72 (f := .glo "SCOPES") rfl)
    TICK := hasG X G (c.fact 73 (f := .glo "TICK") rfl)
    Chain := hasG X G (c.fact 5 (f := .glo "Chain") rfl)
    insC := insB_ok cC (c.more 5 rfl)
    clsCC := cls_ok (c.fact 75 (f := .cls "Classes") rfl)
    links := p_links
    callers := p_callers
    charges := p_charges
    nRows := n_rows
    nFolk := n_folk
    nCostly := n_costly
    nClasses := noat_ok (c.fact 82 (f := .noat "Classes" "classes") rfl)
    nDoubts := noat_ok (c.fact 83 (f := .noat "Classes" "doubts") rfl)
    scopes := fun H => tupB_ok (c.more 0 rfl) H
    tick := fun H => tupB_ok (c.more 1 rfl) H }
theorem law_ok (X : K.In h) (G : h.Ns mainGlobals mg) (c : SaysM faL exL fnL K) : ∃ fd, FunM K d_law fd ∧ ∀ base : Heap, FnOk P w K mg base C8.CX0 14 (d_law.adr K) fd P_law (spLaw ⟨P, w, K, ga K "Chain"⟩) := by
  obtain ⟨_, D_is_integer⟩ := c.def_ 0 (d := d_is_integer) rfl
  obtain ⟨_, D_is_word⟩ := c.def_ 1 (d := d_is_word) rfl
  obtain ⟨_, D_is_part⟩ := c.def_ 2 (d := d_is_part) rfl
  obtain ⟨_, D_is_link⟩ := c.def_ 3 (d := d_is_link) rfl
  obtain ⟨_, D_check_chain⟩ := c.def_ 8 (d := d_check_chain) rfl
  obtain ⟨_, D_events_of⟩ := c.def_ 9 (d := d_events_of) rfl
  obtain ⟨_, D_first_of⟩ := c.def_ 10 (d := d_first_of) rfl
  obtain ⟨_, D_ticked⟩ := c.def_ 11 (d := d_ticked) rfl
  obtain ⟨_, D_does_let⟩ := c.def_ 12 (d := d_does_let) rfl
  obtain ⟨_, D_counted⟩ := c.def_ 13 (d := d_counted) rfl
  obtain ⟨_, D_first_state⟩ := c.def_ 14 (d := d_first_state) rfl
  obtain ⟨_, D_after_tick⟩ := c.def_ 15 (d := d_after_tick) rfl
  obtain ⟨_, D_lets_at⟩ := c.def_ 16 (d := d_lets_at) rfl
  obtain ⟨_, D_counted_at⟩ := c.def_ 17 (d := d_counted_at) rfl
  obtain ⟨_, D_answer_at⟩ := c.def_ 18 (d := d_answer_at) rfl
  obtain ⟨_, D_after_ask⟩ := c.def_ 19 (d := d_after_ask) rfl
  obtain ⟨_, D_after_event⟩ := c.def_ 20 (d := d_after_event) rfl
  obtain ⟨_, D_reached⟩ := c.def_ 21 (d := d_reached) rfl
  obtain ⟨_, D_states⟩ := c.def_ 22 (d := d_states) rfl
  obtain ⟨_, D_grouped⟩ := c.def_ 23 (d := d_grouped) rfl
  obtain ⟨_, D_looked⟩ := c.def_ 26 (d := d_looked) rfl
  obtain ⟨_, D_key_of⟩ := c.def_ 25 (d := d_key_of) rfl
  obtain ⟨_, D_groups_of⟩ := c.def_ 24 (d := d_groups_of) rfl
  obtain ⟨_, D_listed⟩ := c.def_ 29 (d := d_listed) rfl
  obtain ⟨_, D_does_part⟩ := c.def_ 28 (d := d_does_part) rfl
  obtain ⟨_, D_parting_of⟩ := c.def_ 27 (d := d_parting_of) rfl
  obtain ⟨_, D_pairs_of⟩ := c.def_ 32 (d := d_pairs_of) rfl
  obtain ⟨_, D_Classes_init⟩ := c.def_ 30 (d := d_Classes_init) rfl
  obtain ⟨_, D_Classes_shows⟩ := c.def_ 31 (d := d_Classes_shows) rfl
  obtain ⟨_, D_classes⟩ := c.def_ 33 (d := d_classes) rfl
  obtain ⟨_, D_Chain_init⟩ := c.def_ 4 (d := d_Chain_init) rfl
  obtain ⟨_, D_Lcell_at⟩ := c.def_ 34 (d := d_Lcell_at) rfl
  obtain ⟨_, D_Ldraw⟩ := c.def_ 35 (d := d_Ldraw) rfl
  obtain ⟨_, D_Lnumber⟩ := c.def_ 36 (d := d_Lnumber) rfl
  obtain ⟨_, D_Lnext⟩ := c.def_ 37 (d := d_Lnext) rfl
  obtain ⟨_, D_Lpick⟩ := c.def_ 38 (d := d_Lpick) rfl
  obtain ⟨_, D_Llink⟩ := c.def_ 39 (d := d_Llink) rfl
  obtain ⟨_, D_Lchain⟩ := c.def_ 40 (d := d_Lchain) rfl
  obtain ⟨_, D_Levents⟩ := c.def_ 41 (d := d_Levents) rfl
  obtain ⟨_, D_Lnew⟩ := c.def_ 42 (d := d_Lnew) rfl
  obtain ⟨_, D_Lstart⟩ := c.def_ 43 (d := d_Lstart) rfl
  obtain ⟨_, D_Lolder⟩ := c.def_ 44 (d := d_Lolder) rfl
  obtain ⟨_, D_Lroom⟩ := c.def_ 45 (d := d_Lroom) rfl
  obtain ⟨_, D_Lmore⟩ := c.def_ 46 (d := d_Lmore) rfl
  obtain ⟨_, D_Ltick⟩ := c.def_ 47 (d := d_Ltick) rfl
  obtain ⟨_, D_Lask⟩ := c.def_ 48 (d := d_Lask) rfl
  obtain ⟨_, D_Lstep⟩ := c.def_ 49 (d := d_Lstep) rfl
  obtain ⟨_, D_Lreached⟩ := c.def_ 50 (d := d_Lreached) rfl
  obtain ⟨_, D_Lapart⟩ := c.def_ 51 (d := d_Lapart) rfl
  obtain ⟨_, D_Lspeaks⟩ := c.def_ 52 (d := d_Lspeaks) rfl
  obtain ⟨_, D_Lgroups⟩ := c.def_ 53 (d := d_Lgroups) rfl
  obtain ⟨_, D_Lone_right⟩ := c.def_ 54 (d := d_Lone_right) rfl
  obtain ⟨_, D_law⟩ := c.def_ 55 (d := d_law) rfl
  have m_is_integer : mg "is_integer" = some (.ref (d_is_integer.adr K)) := glo_ok X G (c.fact 1 (f := .glo "is_integer") rfl)
  have m_is_word : mg "is_word" = some (.ref (d_is_word.adr K)) := glo_ok X G (c.fact 2 (f := .glo "is_word") rfl)
  have m_is_part : mg "is_part" = some (.ref (d_is_part.adr K)) := glo_ok X G (c.fact 3 (f := .glo "is_part") rfl)
  have m_is_link : mg "is_link" = some (.ref (d_is_link.adr K)) := glo_ok X G (c.fact 4 (f := .glo "is_link") rfl)
  have m_check_chain : mg "check_chain" = some (.ref (d_check_chain.adr K)) := glo_ok X G (c.fact 6 (f := .glo "check_chain") rfl)
  have m_events_of : mg "events_of" = some (.ref (d_events_of.adr K)) := glo_ok X G (c.fact 7 (f := .glo "events_of") rfl)
  have m_first_of : mg "first_of" = some (.ref (d_first_of.adr K)) := glo_ok X G (c.fact 8 (f := .glo "first_of") rfl)
  have m_ticked : mg "ticked" = some (.ref (d_ticked.adr K)) := glo_ok X G (c.fact 9 (f := .glo "ticked") rfl)
  have m_does_let : mg "does_let" = some (.ref (d_does_let.adr K)) := glo_ok X G (c.fact 10 (f := .glo "does_let") rfl)
  have m_counted : mg "counted" = some (.ref (d_counted.adr K)) := glo_ok X G (c.fact 11 (f := .glo "counted") rfl)
  have m_first_state : mg "first_state" = some (.ref (d_first_state.adr K)) := glo_ok X G (c.fact 12 (f := .glo "first_state") rfl)
  have m_after_tick : mg "after_tick" = some (.ref (d_after_tick.adr K)) := glo_ok X G (c.fact 13 (f := .glo "after_tick") rfl)
  have m_lets_at : mg "lets_at" = some (.ref (d_lets_at.adr K)) := glo_ok X G (c.fact 14 (f := .glo "lets_at") rfl)
  have m_counted_at : mg "counted_at" = some (.ref (d_counted_at.adr K)) := glo_ok X G (c.fact 15 (f := .glo "counted_at") rfl)
  have m_answer_at : mg "answer_at" = some (.ref (d_answer_at.adr K)) := glo_ok X G (c.fact 16 (f := .glo "answer_at") rfl)
  have m_after_ask : mg "after_ask" = some (.ref (d_after_ask.adr K)) := glo_ok X G (c.fact 17 (f := .glo "after_ask") rfl)
  have m_after_event : mg "after_event" = some (.ref (d_after_event.adr K)) := glo_ok X G (c.fact 18 (f := .glo "after_event") rfl)
  have m_reached : mg "reached" = some (.ref (d_reached.adr K)) := glo_ok X G (c.fact 19 (f := .glo "reached") rfl)
  have m_states : mg "states" = some (.ref (d_states.adr K)) := glo_ok X G (c.fact 20 (f := .glo "states") rfl)
  have m_grouped : mg "grouped" = some (.ref (d_grouped.adr K)) := glo_ok X G (c.fact 21 (f := .glo "grouped") rfl)
  have m_looked : mg "looked" = some (.ref (d_looked.adr K)) := glo_ok X G (c.fact 24 (f := .glo "looked") rfl)
  have m_key_of : mg "key_of" = some (.ref (d_key_of.adr K)) := glo_ok X G (c.fact 23 (f := .glo "key_of") rfl)
  have m_groups_of : mg "groups_of" = some (.ref (d_groups_of.adr K)) := glo_ok X G (c.fact 22 (f := .glo "groups_of") rfl)
  have m_listed : mg "listed" = some (.ref (d_listed.adr K)) := glo_ok X G (c.fact 27 (f := .glo "listed") rfl)
  have m_does_part : mg "does_part" = some (.ref (d_does_part.adr K)) := glo_ok X G (c.fact 26 (f := .glo "does_part") rfl)
  have m_parting_of : mg "parting_of" = some (.ref (d_parting_of.adr K)) := glo_ok X G (c.fact 25 (f := .glo "parting_of") rfl)
  have m_pairs_of : mg "pairs_of" = some (.ref (d_pairs_of.adr K)) := glo_ok X G (c.fact 29 (f := .glo "pairs_of") rfl)
  have m_classes : mg "classes" = some (.ref (d_classes.adr K)) := glo_ok X G (c.fact 30 (f := .glo "classes") rfl)
  have m_Lcell_at : mg "_law_cell_at" = some (.ref (d_Lcell_at.adr K)) := glo_ok X G (c.fact 31 (f := .glo "_law_cell_at") rfl)
  have m_Ldraw : mg "_law_draw" = some (.ref (d_Ldraw.adr K)) := glo_ok X G (c.fact 32 (f := .glo "_law_draw") rfl)
  have m_Lnumber : mg "_law_number" = some (.ref (d_Lnumber.adr K)) := glo_ok X G (c.fact 33 (f := .glo "_law_number") rfl)
  have m_Lnext : mg "_law_next" = some (.ref (d_Lnext.adr K)) := glo_ok X G (c.fact 34 (f := .glo "_law_next") rfl)
  have m_Lpick : mg "_law_pick" = some (.ref (d_Lpick.adr K)) := glo_ok X G (c.fact 35 (f := .glo "_law_pick") rfl)
  have m_Llink : mg "_law_link" = some (.ref (d_Llink.adr K)) := glo_ok X G (c.fact 36 (f := .glo "_law_link") rfl)
  have m_Lchain : mg "_law_chain" = some (.ref (d_Lchain.adr K)) := glo_ok X G (c.fact 37 (f := .glo "_law_chain") rfl)
  have m_Levents : mg "_law_events" = some (.ref (d_Levents.adr K)) := glo_ok X G (c.fact 38 (f := .glo "_law_events") rfl)
  have m_Lnew : mg "_law_new" = some (.ref (d_Lnew.adr K)) := glo_ok X G (c.fact 39 (f := .glo "_law_new") rfl)
  have m_Lstart : mg "_law_start" = some (.ref (d_Lstart.adr K)) := glo_ok X G (c.fact 40 (f := .glo "_law_start") rfl)
  have m_Lolder : mg "_law_older" = some (.ref (d_Lolder.adr K)) := glo_ok X G (c.fact 41 (f := .glo "_law_older") rfl)
  have m_Lroom : mg "_law_room" = some (.ref (d_Lroom.adr K)) := glo_ok X G (c.fact 42 (f := .glo "_law_room") rfl)
  have m_Lmore : mg "_law_more" = some (.ref (d_Lmore.adr K)) := glo_ok X G (c.fact 43 (f := .glo "_law_more") rfl)
  have m_Ltick : mg "_law_tick" = some (.ref (d_Ltick.adr K)) := glo_ok X G (c.fact 44 (f := .glo "_law_tick") rfl)
  have m_Lask : mg "_law_ask" = some (.ref (d_Lask.adr K)) := glo_ok X G (c.fact 45 (f := .glo "_law_ask") rfl)
  have m_Lstep : mg "_law_step" = some (.ref (d_Lstep.adr K)) := glo_ok X G (c.fact 46 (f := .glo "_law_step") rfl)
  have m_Lreached : mg "_law_reached" = some (.ref (d_Lreached.adr K)) := glo_ok X G (c.fact 47 (f := .glo "_law_reached") rfl)
  have m_Lapart : mg "_law_apart" = some (.ref (d_Lapart.adr K)) := glo_ok X G (c.fact 48 (f := .glo "_law_apart") rfl)
  have m_Lspeaks : mg "_law_speaks" = some (.ref (d_Lspeaks.adr K)) := glo_ok X G (c.fact 49 (f := .glo "_law_speaks") rfl)
  have m_Lgroups : mg "_law_groups" = some (.ref (d_Lgroups.adr K)) := glo_ok X G (c.fact 50 (f := .glo "_law_groups") rfl)
  have m_Lone_right : mg "_law_one_right" = some (.ref (d_Lone_right.adr K)) := glo_ok X G (c.fact 51 (f := .glo "_law_one_right") rfl)
  refine ⟨_, D_law, fun base => ?_⟩
  have F : Ft P w K mg base (ga K "Chain") (ga K "Classes") (ga K "SCOPES") (ga K "TICK") := ft_of X G c
  have c_is_integer := cl_is_integer F D_is_integer m_is_integer 
  have c_is_word := cl_is_word F D_is_word m_is_word 
  have c_is_part := cl_is_part F D_is_part m_is_part c_is_word c_is_integer
  have c_is_link := cl_is_link F D_is_link m_is_link c_is_word c_is_part
  have c_check_chain := cl_check_chain F D_check_chain m_check_chain 
  have c_events_of := cl_events_of F D_events_of m_events_of 
  have c_first_of := cl_first_of F D_first_of m_first_of 
  have c_ticked := cl_ticked F D_ticked m_ticked 
  have c_does_let := cl_does_let F D_does_let m_does_let 
  have c_counted := cl_counted F D_counted m_counted 
  have c_first_state := cl_first_state F D_first_state m_first_state c_first_of
  have c_after_tick := cl_after_tick F D_after_tick m_after_tick c_ticked
  have c_lets_at := cl_lets_at F D_lets_at m_lets_at c_does_let
  have c_counted_at := cl_counted_at F D_counted_at m_counted_at c_counted
  have c_answer_at := cl_answer_at F D_answer_at m_answer_at c_lets_at
  have c_after_ask := cl_after_ask F D_after_ask m_after_ask c_answer_at c_lets_at c_counted_at
  have c_after_event := cl_after_event F D_after_event m_after_event c_after_tick c_after_ask
  have c_reached := cl_reached F D_reached m_reached c_first_state c_events_of c_after_event
  have c_states := cl_states F D_states m_states c_check_chain c_reached
  have c_grouped := cl_grouped F D_grouped m_grouped 
  have c_looked := cl_looked F D_looked m_looked c_after_event
  have c_key_of := cl_key_of F D_key_of m_key_of c_events_of c_looked
  have c_groups_of := cl_groups_of F D_groups_of m_groups_of c_key_of c_grouped
  have c_listed := cl_listed F D_listed m_listed c_reached c_groups_of
  have c_does_part := cl_does_part F D_does_part m_does_part c_after_event
  have c_parting_of := cl_parting_of F D_parting_of m_parting_of c_events_of c_after_event
  have c_pairs_of := cl_pairs_of F D_pairs_of m_pairs_of 
  have c_Classes_init : C8.Mak P w K mg base 3 "Classes" (ga K "Classes") (spCi ⟨P, w, K, ga K "Chain"⟩ (ga K "Classes")) [] := ⟨_, _, P_Classes_init, [], mkr_ok (c.fact 77 (f := .mkr "Classes") rfl), fo_Classes_init F D_Classes_init, glo_ok X G (c.fact 28 (f := .glo "Classes") rfl), D_Classes_init.bindsN (fun _ _ _ _ _ _ us hl => match us, hl with | [_, _, _], _ => rfl), .nil⟩
  have c_Classes_shows : C8.Met P w K mg base 12 (ga K "Classes") "shows" (spSh ⟨P, w, K, ga K "Chain"⟩ (ga K "Classes")) [] := ⟨_, _, P_Classes_shows, [], F.clsCC, meth_ok (c.fact 78 (f := .meth "Classes" "shows") rfl), fo_Classes_shows F D_Classes_shows c_check_chain c_listed c_pairs_of c_does_part, D_Classes_shows.bindsN (fun _ _ _ _ _ _ us hl => match us, hl with | [_, _], _ => rfl), .nil⟩
  have c_classes := cl_classes F D_classes m_classes c_check_chain c_listed c_pairs_of c_parting_of c_Classes_init
  have c_Chain_init : MakK P w K mg base 6 "Chain" (ga K "Chain") (spCh ⟨P, w, K, ga K "Chain"⟩) := by
    obtain ⟨mv, b⟩ := FunD.kbinds0 (ps := P_Chain_init) D_Chain_init 2 ["callers", "charges"] [] (fun us _ ws => us ++ ws) (by simp) (fun q hq => by cases hq) (fun r1 _ r3 => r1.append r3)
      (fun D doc pm an cdv ct us mv ws h1 h2 h3 => match us, h1, mv, h2, ws, h3 with | [_, _], _, [], _, [_, _], _ => rfl)
    exact ⟨_, _, P_Chain_init, _, mkr_ok (c.fact 76 (f := .mkr "Chain") rfl), fo_Chain_init F D_Chain_init c_is_link c_is_integer, glo_ok X G (c.fact 5 (f := .glo "Chain") rfl), b⟩
  have c_Lcell_at := cl_Lcell_at F D_Lcell_at m_Lcell_at 
  have c_Ldraw := cl_Ldraw F D_Ldraw m_Ldraw 
  have c_Lnumber := cl_Lnumber F D_Lnumber m_Lnumber c_Ldraw
  have c_Lnext := cl_Lnext F D_Lnext m_Lnext c_Lcell_at c_Lnumber
  have c_Lpick := cl_Lpick F D_Lpick m_Lpick c_Lnext
  have c_Llink := cl_Llink F D_Llink m_Llink c_Lnext c_Lpick
  have c_Lchain := cl_Lchain F D_Lchain m_Lchain c_Lnext c_Llink c_Chain_init
  have c_Levents := cl_Levents F D_Levents m_Levents 
  have c_Lnew := cl_Lnew F D_Lnew m_Lnew 
  have c_Lstart := cl_Lstart F D_Lstart m_Lstart c_Lnew
  have c_Lolder := cl_Lolder F D_Lolder m_Lolder 
  have c_Lroom := cl_Lroom F D_Lroom m_Lroom 
  have c_Lmore := cl_Lmore F D_Lmore m_Lmore 
  have c_Ltick := cl_Ltick F D_Ltick m_Ltick c_Lolder
  have c_Lask := cl_Lask F D_Lask m_Lask c_Lroom c_Lmore
  have c_Lstep := cl_Lstep F D_Lstep m_Lstep c_Ltick c_Lask
  have c_Lreached := cl_Lreached F D_Lreached m_Lreached c_Lstart c_Levents c_Lstep
  have c_Lapart := cl_Lapart F D_Lapart m_Lapart c_Levents c_Lstep
  have c_Lspeaks := cl_Lspeaks F D_Lspeaks m_Lspeaks c_Lstep
  have c_Lgroups := cl_Lgroups F D_Lgroups m_Lgroups c_Lapart
  have c_Lone_right := cl_Lone_right F D_Lone_right m_Lone_right c_classes c_Lgroups c_states c_Classes_shows c_Lapart c_Classes_init c_Lpick c_Lspeaks
  exact fo_law F D_law c_Lnext c_Lchain c_Lreached c_Lone_right
end
end K3

set_option Elab.async false
set_option linter.all false
set_option maxRecDepth 100000
set_option maxHeartbeats 0
/-! The head: one run of the top. -/
namespace K3
open PySem PySem.Spec PyProof.Rows L2 He
abbrev ROW : PySem.W.OpenRow := PySem.W.OpenLaw.row RW
abbrev HK : PySem.W.Hook := hookM 7 faL exL fnL
def obH (s : PySem.W.SharedT) : AlM := obsMG 7 faL exL fnL (HandSHeadRun.getT s)
theorem obH_eq (s : PySem.W.SharedT) : obH s = HK.obs s.abs := obsMG_eq (HandSHeadRun.getT_eq s)
def lo0 : List PySem.Str := ["LimitError", "BadChain", "TooLarge", "MAX_LIMIT", "MAX_SPAN", "MAX_LINKS", "MAX_CALLERS", "SCOPES", "TICK", "is_integer", "is_word", "is_part", "is_link", "Chain", "check_chain", "events_of", "first_of", "ticked", "does_let", "counted", "first_state", "after_tick", "lets_at", "counted_at", "answer_at", "after_ask", "after_event", "MAX_STATES", "reached", "states"]
def lo1 : List PySem.Str := ["grouped", "groups_of", "key_of", "looked", "parting_of", "does_part", "listed", "Classes", "pairs_of", "classes", "_law_cell_at", "_law_draw", "_law_number", "_law_next", "_law_pick", "_law_link", "_law_chain", "_law_events", "_law_new", "_law_start", "_law_older", "_law_room", "_law_more", "_law_tick", "_law_ask", "_law_step", "_law_reached", "_law_apart", "_law_speaks", "_law_groups"]
def lo2 : List PySem.Str := ["_law_one_right"]
def loL : List PySem.Str := lo0 ++ lo1 ++ lo2
theorem head_run (w : World) : HandSHeadRun.RunEq ROW (PySem.W.view ROW.prog [66]) HK obH 20000 loL w := by
  intro os
  kernel_rfl
end K3

set_option Elab.async false
set_option linter.all false
set_option maxRecDepth 100000
set_option maxHeartbeats 0
/-! The law. -/
namespace K3
open PySem PySem.Spec PyProof.Rows L2 He
theorem last_facts {w : World} {K : PySem.W.Frag} {h : Heap} {mg : Str → Option Value} {f : Addr} (X : K.In h) (G : h.Ns mainGlobals mg) (hfa : mg ("law" : Str) = some (.ref f)) (c : SaysM faL exL fnL K) :
    ∃ fd : FuncData, (∀ (s : Shared) (v : Value), BindsTo s fd ⟨[v], []⟩ [("_law_script", v)]) ∧ ∀ base : Heap, K.In base → base.Ns mainGlobals mg → FnOk PRG w K mg base C8.CX0 14 f fd ["_law_script"] (spLaw ⟨PRG, w, K, ga K "Chain"⟩) := by
  obtain ⟨fd, F, ok⟩ := law_ok (P := PRG) (w := w) X G c
  have e := hfa.symm.trans (glo_ok X G (c.fact 52 (f := .glo "law") rfl))
  cases e
  have b := FunD.bindsA (ps := ["_law_script"]) F fun _ _ _ _ _ _ us hl => match us, hl with | [_], _ => rfl
  exact ⟨fd, fun s v => b s [v] rfl, fun base _ _ => ok base⟩
end K3
open PySem PySem.W PySem.Calls PyProof.Rows
theorem PySem.Challenge.cw_limitwithin_k03_whole_twins_holds : PySem.Challenge.rw_limitwithin_k03_whole_twins.Holds := by
  w_on; o_law
  refine HandSHeadRun.head_any (r := K3.ROW) (q := view K3.ROW.prog [66]) (H := K3.HK) (ob := K3.obH) (M := 20000) (loose := K3.loL) (d := HandSHeadRun.topDef K3.ROW.prog 66) (kwd := []) K3.obH_eq
    (by kernel_rfl) (fun s => by kernel_rfl) K3.head_run (by kernel_rfl) (by kernel_rfl) (by kernel_rfl) (by rfl) (by first | assumption | decide +kernel) (by decide +kernel) ⟨rfl, rfl, rfl, rfl, rfl, by decide +kernel⟩ ?hw ?hc
  case hw => w_witness2
  case hc =>
    refine L2.walk_ofE (l := PySem.Challenge.rw_limitwithin_k03_whole_twins) (n := 63) (k := 14) (x := "_law_script") (CX := C8.CX0) rfl (by decide) (by kernel_rfl) ⟨rfl, by decide, by decide⟩ ?F (fun _ _ _ _ z => z)
    intro w mg fa h Y G hmg0
    obtain ⟨K, KX, c⟩ := Y
    have hmg : mg ("law" : PySem.Str) = some (.ref fa) := by
      have e : (HandSHeadRun.topDef K3.ROW.prog 66).name = ("law" : PySem.Str) := by kernel_rfl
      rw [← e]
      exact hmg0
    obtain ⟨fd, hb, hF⟩ := K3.last_facts (w := w) KX G hmg c
    exact ⟨K, fd, K3.spLaw ⟨K3.PRG, w, K, He.ga K "Chain"⟩, KX, hb, fun H a ns hl _ hS => ⟨a, ns, rfl, hS, fun _ => rfl⟩, hF⟩
