import PyProof.Rows.All
import Wide.All
import OpenK.AllK
import Wide.FinOn
import PyProof.Rows.RuleB_pow
import HandS.ForMost
import HandS.IsInst
import HandS.CallLocal
import HandS.Codes
import HandS.Walk
import HandS.WideBits
import HandS.Rev
import HandS.SetFor
import HandS.SortInts
import PySem.Challenge.RW_spanmap_k73_names_at
set_option Elab.async false
set_option linter.all false
set_option maxRecDepth 100000
set_option maxHeartbeats 4000000
/-! Rows of a line: (low, behind, value); what they tell at a place. Plain Lean. -/
namespace Sm
/-- a row: low, behind, value -/
structure Row where
  lo : Option Int
  be : Option Int
  v : Option Nat
/-- the place lies in the span -/
def inS (lo be : Option Int) (p : Int) : Prop := (∀ l, lo = some l → l ≤ p) ∧ (∀ b, be = some b → p < b)
instance (lo be : Option Int) (p : Int) : Decidable (inS lo be p) :=
  match lo, be with
  | none, none => .isTrue ⟨nofun, nofun⟩
  | some l, none => if h : l ≤ p then .isTrue ⟨fun _ e => (Option.some.inj e) ▸ h, nofun⟩ else .isFalse fun q => h (q.1 l rfl)
  | none, some b => if h : p < b then .isTrue ⟨nofun, fun _ e => (Option.some.inj e) ▸ h⟩ else .isFalse fun q => h (q.2 b rfl)
  | some l, some b => if h : l ≤ p ∧ p < b then .isTrue ⟨fun _ e => (Option.some.inj e) ▸ h.1, fun _ e => (Option.some.inj e) ▸ h.2⟩ else .isFalse fun q => h ⟨q.1 l rfl, q.2 b rfl⟩
/-- a span has a place -/
def okS (lo be : Option Int) : Prop := ∀ l b, lo = some l → be = some b → l < b
def Row.has (r : Row) (p : Int) : Prop := inS r.lo r.be p
def Row.ok (r : Row) : Prop := okS r.lo r.be
instance (r : Row) (p : Int) : Decidable (r.has p) := inferInstanceAs (Decidable (inS r.lo r.be p))
/-- the one lies ahead of the other, end to end or farther -/
def Row.bef (r s : Row) : Prop := ∃ b l, r.be = some b ∧ s.lo = some l ∧ b ≤ l
theorem bef_apart {r s : Row} (h : r.bef s) {p : Int} (a : r.has p) : ¬ s.has p := fun q => by
  obtain ⟨b, l, e1, e2, hle⟩ := h
  have := a.2 b e1
  have := q.1 l e2
  omega
theorem bef_trans {r s t : Row} (h : r.bef s) (k : s.bef t) (o : s.ok) : r.bef t := by
  obtain ⟨b, l, e1, e2, h1⟩ := h
  obtain ⟨b', l', e3, e4, h2⟩ := k
  have := o l b' e2 e3
  exact ⟨b, l', e1, e4, by omega⟩
/-- rows in their order, no two with a place in common -/
structure WF (R : List Row) : Prop where
  ok : ∀ r ∈ R, r.ok
  pw : R.Pairwise Row.bef
theorem WF.nil : WF [] := ⟨by simp, List.Pairwise.nil⟩
/-- what rows tell -/
def tell : List Row → Int → Option Nat
  | [], _ => none
  | r :: t, p => if r.has p then r.v else tell t p
theorem tell_none : ∀ {R : List Row} {p : Int}, (∀ r ∈ R, ¬ r.has p) → tell R p = none
  | [], _, _ => rfl
  | r :: t, p, h => by
    unfold tell
    rw [if_neg (h r List.mem_cons_self)]
    exact tell_none fun s hs => h s (List.mem_cons_of_mem _ hs)
theorem tell_mem : ∀ {R : List Row} {p : Int} {r : Row}, R.Pairwise Row.bef → r ∈ R → r.has p → tell R p = r.v
  | [], _, _, _, h, _ => by simp at h
  | s :: t, p, r, pw, h, hp => by
    obtain ⟨h1, h2⟩ := List.pairwise_cons.mp pw
    unfold tell
    rcases List.mem_cons.mp h with e | e
    · subst e; rw [if_pos hp]
    · rw [if_neg fun q => bef_apart (h1 r e) q hp]
      exact tell_mem h2 e hp
theorem tell_append : ∀ (R S : List Row) (p : Int), (∀ r ∈ R, ∀ s ∈ S, r.has p → ¬ s.has p) → tell (R ++ S) p = (if ∃ s ∈ S, s.has p then tell S p else tell R p)
  | [], S, p, _ => by
    show tell S p = _
    split
    · rfl
    · rename_i h
      rw [tell_none fun r hr q => h ⟨r, hr, q⟩]; rfl
  | r :: R, S, p, h => by
    have ih := tell_append R S p fun r hr s hs => h r (List.mem_cons_of_mem _ hr) s hs
    show (if r.has p then r.v else tell (R ++ S) p) = _
    rw [ih]
    by_cases c : ∃ s ∈ S, s.has p
    · obtain ⟨s, hs, q⟩ := id c
      rw [if_pos c, if_pos c, if_neg fun z => h r List.mem_cons_self s hs z q]
    · rw [if_neg c, if_neg c]; rfl
/-- one row more behind all -/
theorem tell_snoc {R : List Row} {s : Row} (h : ∀ r ∈ R, r.bef s) (p : Int) : tell (R ++ [s]) p = if s.has p then s.v else tell R p := by
  rw [tell_append R [s] p fun r hr q hq a => by rw [List.mem_singleton.mp hq]; exact bef_apart (h r hr) a]
  by_cases c : s.has p
  · rw [if_pos ⟨s, by simp, c⟩, if_pos c]
    show (if s.has p then s.v else none) = _
    rw [if_pos c]
  · rw [if_neg (by rintro ⟨q, hq, z⟩; rw [List.mem_singleton.mp hq] at z; exact c z), if_neg c]
theorem WF.snoc {R : List Row} {s : Row} (w : WF R) (o : s.ok) (h : ∀ r ∈ R, r.bef s) : WF (R ++ [s]) := by
  refine ⟨fun r hr => ?_, ?_⟩
  · rcases List.mem_append.mp hr with q | q
    · exact w.ok r q
    · rw [List.mem_singleton.mp q]; exact o
  · rw [List.pairwise_append]
    exact ⟨w.pw, List.pairwise_singleton _ _, fun r hr q hq => by rw [List.mem_singleton.mp hq]; exact h r hr⟩
/-- what is behind the last one is behind all -/
theorem bef_all {R : List Row} {l s : Row} (w : WF R) (hl : R.getLast? = some l) (h : l.bef s) : ∀ r ∈ R, r.bef s := fun r hr => by
  obtain ⟨R0, e⟩ : ∃ R0, R = R0 ++ [l] := by
    rw [List.getLast?_eq_some_iff] at hl
    exact hl
  subst e
  rcases List.mem_append.mp hr with q | q
  · have := (List.pairwise_append.mp w.pw).2.2 r q l (by simp)
    exact bef_trans this h (w.ok l (by simp))
  · rw [List.mem_singleton.mp q]; exact h
theorem WF.take {R : List Row} (w : WF R) (n : Nat) : WF (R.take n) :=
  ⟨fun r hr => w.ok r (List.mem_of_mem_take hr), w.pw.sublist (List.take_sublist n R)⟩
theorem WF.bef_at {R : List Row} (w : WF R) {i j : Nat} {r s : Row} (hi : R[i]? = some r) (hj : R[j]? = some s) (h : i < j) : r.bef s := by
  obtain ⟨h1, e1⟩ := List.getElem?_eq_some_iff.mp hi
  obtain ⟨h2, e2⟩ := List.getElem?_eq_some_iff.mp hj
  have := List.pairwise_iff_getElem.mp w.pw i j h1 h2 h
  rw [e1, e2] at this
  exact this
theorem tell_at {R : List Row} (w : WF R) {i : Nat} {r : Row} (hi : R[i]? = some r) {p : Int} (hp : r.has p) : tell R p = r.v :=
  tell_mem w.pw (List.mem_of_getElem? hi) hp
/-- all ends stand in a list -/
def EndsIn (E : List Int) (R : List Row) : Prop := ∀ r ∈ R, (∀ x, r.lo = some x → x ∈ E) ∧ (∀ x, r.be = some x → x ∈ E)
theorem EndsIn.mono {E E' : List Int} {R : List Row} (h : EndsIn E R) (s : ∀ x ∈ E, x ∈ E') : EndsIn E' R := fun r hr => ⟨fun x e => s x ((h r hr).1 x e), fun x e => s x ((h r hr).2 x e)⟩
theorem EndsIn.snoc {E : List Int} {R : List Row} {s : Row} (h : EndsIn E R) (a : ∀ x, s.lo = some x → x ∈ E) (b : ∀ x, s.be = some x → x ∈ E) : EndsIn E (R ++ [s]) := fun r hr => by
  rcases List.mem_append.mp hr with q | q
  · exact h r q
  · rw [List.mem_singleton.mp q]; exact ⟨a, b⟩
theorem EndsIn.take {E : List Int} {R : List Row} (h : EndsIn E R) (n : Nat) : EndsIn E (R.take n) := fun r hr => h r (List.mem_of_mem_take hr)

/-! ### how many -/
theorem nodup_len {α : Type} [BEq α] [LawfulBEq α] : ∀ {l m : List α}, l.Nodup → (∀ x ∈ l, x ∈ m) → l.length ≤ m.length
  | [], m, _, _ => Nat.zero_le _
  | a :: l, m, nd, h => by
    obtain ⟨h1, h2⟩ := List.nodup_cons.mp nd
    have ha : a ∈ m := h a List.mem_cons_self
    have := nodup_len (l := l) (m := m.erase a) h2 fun x hx => (List.mem_erase_of_ne (fun (e : x = a) => h1 (by rw [← e]; exact hx))).mpr (h x (List.mem_cons_of_mem _ hx))
    rw [List.length_erase_of_mem ha] at this
    have : 0 < m.length := List.length_pos_of_mem ha
    rw [List.length_cons]; omega
theorem wf_len {E : List Int} {R : List Row} (w : WF R) (e : EndsIn E R) : R.length ≤ E.length + 1 := by
  have nd : (R.map (·.lo)).Nodup := by
    rw [List.nodup_iff_pairwise_ne, List.pairwise_map]
    have : R.Pairwise fun r s => r.bef s ∧ r.ok := by
      refine List.Pairwise.imp_of_mem ?_ w.pw
      intro a b ha _ h
      exact ⟨h, w.ok a ha⟩
    refine this.imp ?_
    rintro r s ⟨⟨b, l, e1, e2, hle⟩, o⟩ q
    have := o l b (q.trans e2) e1
    omega
  have := nodup_len (m := none :: E.map some) nd fun x hx => by
    obtain ⟨r, hr, q⟩ := List.mem_map.mp hx
    cases x with
    | none => exact List.mem_cons_self
    | some y => exact List.mem_cons_of_mem _ (List.mem_map.mpr ⟨y, (e r hr).1 y q, rfl⟩)
  simpa using this

/-! ### value_at: by halving -/
/-- low is None or low <= place -/
def loLe (lo : Option Int) (p : Int) : Prop := ∀ l, lo = some l → l ≤ p
theorem lo_down {R : List Row} (w : WF R) {i j : Nat} {r s : Row} (hi : R[i]? = some r) (hj : R[j]? = some s) (h : i ≤ j) {p : Int} (a : loLe s.lo p) : loLe r.lo p := by
  rcases Nat.lt_or_eq_of_le h with h | h
  · obtain ⟨b, l, e1, e2, hle⟩ := w.bef_at hi hj h
    intro x ex
    have := w.ok r (List.mem_of_getElem? hi) x b ex e1
    have := a l e2
    omega
  · subst h; rw [hi] at hj; cases hj; exact a
/-- the number of rows that begin at p or ahead of it -/
structure Begun (R : List Row) (p : Int) (n : Nat) : Prop where
  le : n ≤ R.length
  in_ : ∀ i r, R[i]? = some r → i < n → loLe r.lo p
  out : ∀ i r, R[i]? = some r → n ≤ i → ¬ loLe r.lo p
theorem begun_zero {R : List Row} {p : Int} (b : Begun R p 0) : tell R p = none := by
  refine tell_none fun r hr q => ?_
  obtain ⟨i, hi⟩ := List.getElem?_of_mem hr
  exact b.out i r hi (Nat.zero_le _) q.1
theorem begun_in {R : List Row} (w : WF R) {p : Int} {n : Nat} {r : Row} (b : Begun R p (n + 1)) (hr : R[n]? = some r) (h : ∀ x, r.be = some x → p < x) : tell R p = r.v :=
  tell_at w hr ⟨b.in_ n r hr (Nat.lt_succ_self n), h⟩
theorem begun_out {R : List Row} (w : WF R) {p x : Int} {n : Nat} {r : Row} (b : Begun R p (n + 1)) (hr : R[n]? = some r) (hx : r.be = some x) (h : ¬ p < x) : tell R p = none := by
  refine tell_none fun s hs q => ?_
  obtain ⟨i, hi⟩ := List.getElem?_of_mem hs
  rcases Nat.lt_trichotomy i n with c | c | c
  · obtain ⟨b', l, e1, e2, hle⟩ := w.bef_at hi hr c
    have := q.2 b' e1
    have := b.in_ n r hr (Nat.lt_succ_self n) l e2
    omega
  · subst c; rw [hi] at hr; cases hr
    exact h (q.2 x hx)
  · exact b.out i s hi c q.1

/-! ### whole: rows end to end -/
/-- rows from the left end on, end to end, up to `at` -/
structure Con (R : List Row) (a : Option Int) : Prop where
  ok : ∀ r ∈ R, r.ok
  hd : ∀ r, R[0]? = some r → r.lo = none
  nx : ∀ i r s, R[i]? = some r → R[i + 1]? = some s → ∃ b, r.be = some b ∧ s.lo = some b
  la : ∀ r, R.getLast? = some r → r.be = a
  pw : R.Pairwise Row.bef
theorem Con.wf {R : List Row} {a : Option Int} (c : Con R a) : WF R := ⟨c.ok, c.pw⟩
theorem Con.one {be : Option Int} {v : Option Nat} : Con [⟨none, be, v⟩] be where
  ok := fun r hr => by rw [List.mem_singleton.mp hr]; intro l b e; cases e
  hd := fun r e => by cases e; rfl
  nx := fun i r s _ e => by simp at e
  la := fun r e => by cases e; rfl
  pw := List.pairwise_singleton _ _
theorem Con.bef {R : List Row} {x : Int} {be : Option Int} {v : Option Nat} (c : Con R (some x)) : ∀ r ∈ R, r.bef ⟨some x, be, v⟩ := by
  cases e : R.getLast? with
  | none =>
    rw [List.getLast?_eq_none_iff] at e
    subst e; simp
  | some l => exact bef_all c.wf e ⟨x, x, c.la l e, rfl, Int.le_refl _⟩
theorem Con.snoc {R : List Row} {x : Int} {be : Option Int} {v : Option Nat} (c : Con R (some x)) (hR : R ≠ []) (o : okS (some x) be) : Con (R ++ [⟨some x, be, v⟩]) be where
  ok := (c.wf.snoc (s := ⟨some x, be, v⟩) o c.bef).ok
  pw := (c.wf.snoc (s := ⟨some x, be, v⟩) o c.bef).pw
  hd := fun r e => by
    have hl : 0 < R.length := List.length_pos_iff.mpr hR
    rw [List.getElem?_append_left hl] at e
    exact c.hd r e
  la := fun r e => by
    rw [List.getLast?_append] at e
    cases e; rfl
  nx := fun i r s hi hj => by
    rcases Nat.lt_trichotomy (i + 1) R.length with h | h | h
    · rw [List.getElem?_append_left h] at hj
      rw [List.getElem?_append_left (by omega)] at hi
      exact c.nx i r s hi hj
    · rw [List.getElem?_append_left (by omega)] at hi
      rw [List.getElem?_append_right (by omega), h, Nat.sub_self] at hj
      cases hj
      have : R.getLast? = some r := by rw [List.getLast?_eq_getElem?, show R.length - 1 = i by omega]; exact hi
      exact ⟨x, c.la r this, rfl⟩
    · have := (List.getElem?_eq_some_iff.mp hj).1
      rw [List.length_append] at this
      simp at this; omega
/-- the whole line -/
structure Cov (R : List Row) : Prop where
  con : Con R none
  ne : R ≠ []
theorem Cov.last {R : List Row} (c : Cov R) {i : Nat} {r : Row} (hi : R[i]? = some r) (h : r.be = none) : i + 1 = R.length := by
  have hl := (List.getElem?_eq_some_iff.mp hi).1
  rcases Nat.lt_or_eq_of_le (show i + 1 ≤ R.length from hl) with q | q
  · obtain ⟨b, e, _⟩ := c.con.nx i r _ hi (List.getElem?_eq_getElem q)
    rw [h] at e; cases e
  · exact q
theorem Cov.next {R : List Row} (c : Cov R) {i : Nat} {r : Row} (hi : R[i]? = some r) {b : Int} (h : r.be = some b) : ∃ s, R[i + 1]? = some s ∧ s.lo = some b := by
  have hl := (List.getElem?_eq_some_iff.mp hi).1
  rcases Nat.lt_or_eq_of_le (show i + 1 ≤ R.length from hl) with q | q
  · obtain ⟨b', e, e2⟩ := c.con.nx i r _ hi (List.getElem?_eq_getElem q)
    rw [h] at e; cases e
    exact ⟨_, List.getElem?_eq_getElem q, e2⟩
  · have : R.getLast? = some r := by rw [List.getLast?_eq_getElem?, show R.length - 1 = i by omega]; exact hi
    have := c.con.la r this
    rw [h] at this; cases this
/-- behind k pieces: the rows of whole -/
structure Wh (ps : List Row) (k : Nat) (R : List Row) (a : Option Int) : Prop where
  con : Con R a
  nil : R = [] → k = 0
  te : ∀ p, tell R p = tell (ps.take k) p
  la : ∀ r, (ps.take k).getLast? = some r → r.be = a
  nil' : k = 0 → R = []
  few : R.length ≤ 2 * k
  z : R = [] → a = none
  en : ∀ E, EndsIn E ps → EndsIn E R ∧ ∀ x, a = some x → x ∈ E
theorem Wh.zero (ps : List Row) : Wh ps 0 [] none where
  con := ⟨by simp, by simp, by simp, by simp, List.Pairwise.nil⟩
  nil := fun _ => rfl
  te := fun p => by rw [List.take_zero]
  la := fun r e => by simp at e
  nil' := fun _ => rfl
  few := Nat.zero_le _
  z := fun _ => rfl
  en := fun _ _ => ⟨fun r hr => by simp at hr, fun x e => by cases e⟩
theorem take_snoc {α : Type} {l : List α} {i : Nat} {x : α} (h : l[i]? = some x) : l.take (i + 1) = l.take i ++ [x] := by
  rw [List.take_add_one, h]; rfl
theorem tell_take {ps : List Row} (w : WF ps) {k : Nat} {r : Row} (hk : ps[k]? = some r) (p : Int) : tell (ps.take (k + 1)) p = if r.has p then r.v else tell (ps.take k) p := by
  rw [take_snoc hk]
  refine tell_snoc (fun s hs => ?_) p
  obtain ⟨i, hi⟩ := List.getElem?_of_mem hs
  rw [List.getElem?_take] at hi
  split at hi
  · rename_i c; exact w.bef_at hi hk c
  · cases hi
theorem take_last {ps : List Row} {k : Nat} {r s : Row} (hk : ps[k]? = some r) (h : (ps.take (k + 1)).getLast? = some s) : s = r := by
  rw [take_snoc hk, List.getLast?_append] at h
  cases h; rfl
/-- the place at which the rows stand, ahead of the k-th piece -/
theorem Wh.at_ {ps : List Row} (w : WF ps) {k : Nat} {R : List Row} {a : Option Int} (h : Wh ps k R a) (hR : R ≠ []) {r : Row} (hk : ps[k]? = some r) : ∃ x l, a = some x ∧ r.lo = some l ∧ x ≤ l := by
  have hk0 : k ≠ 0 := fun z => hR (h.nil' z)
  have hlt := (List.getElem?_eq_some_iff.mp hk).1
  have h1 : ps[k - 1]? = some (ps[k - 1]'(by omega)) := List.getElem?_eq_getElem _
  have h2 : (ps.take k).getLast? = some (ps[k - 1]'(by omega)) := by
    rw [List.getLast?_eq_getElem?, List.length_take, Nat.min_eq_left (Nat.le_of_lt hlt), List.getElem?_take, if_pos (by omega)]
    exact h1
  obtain ⟨b, l, e1, e2, hle⟩ := w.bef_at h1 hk (by omega)
  exact ⟨b, l, by rw [← h.la _ h2]; exact e1, e2, hle⟩
/-- a piece at which the rows stand, or the first one, without a low end -/
theorem Wh.put {ps : List Row} (w : WF ps) {k : Nat} {R : List Row} {a : Option Int} (h : Wh ps k R a) {r : Row} (hk : ps[k]? = some r) (h0 : R = [] → r.lo = none) (hl : R ≠ [] → r.lo = a) : Wh ps (k + 1) (R ++ [r]) r.be := by
  obtain ⟨lo, be, v⟩ := r
  dsimp only at hl h0
  have ok : Row.ok ⟨lo, be, v⟩ := w.ok _ (List.mem_of_getElem? hk)
  by_cases hR : R = []
  · have hlo := h0 hR
    subst hR
    have hk0 := h.nil rfl
    subst hk0
    subst hlo
    refine ⟨Con.one, by simp, fun p => ?_, fun s hs => by rw [take_last hk hs], by simp, by simp, by simp, fun E hE => ?_⟩
    · rw [tell_take w hk]; simp [tell]
    · have q := hE _ (List.mem_of_getElem? hk)
      exact ⟨fun r hr => by rw [List.mem_singleton.mp hr]; exact q, q.2⟩
  · obtain ⟨x, l, e1, e2, _⟩ := h.at_ w hR hk
    have hl := hl hR
    subst hl
    dsimp only at e1 e2
    subst e1
    refine ⟨h.con.snoc hR ok, by simp, fun p => ?_, fun s hs => by rw [take_last hk hs], by simp, by have := h.few; simp; omega, by simp, fun E hE => ?_⟩
    · rw [tell_snoc h.con.bef, tell_take w hk, h.te]
    · have q := hE _ (List.mem_of_getElem? hk)
      exact ⟨(h.en E hE).1.snoc q.1 q.2, q.2⟩
/-- .. a gap ahead of it -/
theorem Wh.gap {ps : List Row} (w : WF ps) {k : Nat} {R : List Row} {a : Option Int} (h : Wh ps k R a) {l : Int} {be : Option Int} {v : Option Nat} (hk : ps[k]? = some ⟨some l, be, v⟩) (hl : ∀ x, R ≠ [] → a = some x → x < l) :
    Wh ps (k + 1) (R ++ [⟨a, some l, none⟩, ⟨some l, be, v⟩]) be := by
  have ok : okS (some l) be := w.ok _ (List.mem_of_getElem? hk)
  by_cases hR : R = []
  · subst hR
    have hk0 := h.nil rfl
    subst hk0
    have ha : a = none := h.z rfl
    subst ha
    have c1 : Con [⟨none, some l, none⟩] (some l) := Con.one
    have c2 := c1.snoc (be := be) (v := v) (by simp) ok
    refine ⟨c2, by simp, fun p => ?_, fun s hs => by rw [take_last hk hs], by simp, by simp, by simp, fun E hE => ?_⟩
    · rw [List.nil_append, tell_take w hk]
      rw [show ([⟨none, some l, none⟩, ⟨some l, be, v⟩] : List Row) = [⟨none, some l, none⟩] ++ [⟨some l, be, v⟩] from rfl, tell_snoc c1.bef]
      simp [tell]
    · have q := hE _ (List.mem_of_getElem? hk)
      refine ⟨fun r hr => ?_, q.2⟩
      rw [List.nil_append] at hr
      rcases List.mem_cons.mp hr with e | e
      · subst e; exact ⟨(fun x e => by cases e), fun x e => q.1 x e⟩
      · rw [List.mem_singleton.mp e]; exact q
  · obtain ⟨x, l', e1, e2, _⟩ := h.at_ w hR hk
    dsimp only at e1 e2
    subst e1
    cases e2
    have hx := hl x hR rfl
    have ok1 : okS (some x) (some l) := fun _ _ e e' => by cases e; cases e'; exact hx
    have c1 := h.con.snoc (be := some l) (v := none) hR ok1
    have c2 := c1.snoc (be := be) (v := v) (by simp) ok
    rw [List.append_assoc] at c2
    refine ⟨c2, by simp, fun p => ?_, fun s hs => by rw [take_last hk hs], by simp, by have := h.few; simp; omega, by simp, fun E hE => ?_⟩
    rotate_left
    · have q := hE _ (List.mem_of_getElem? hk)
      have q0 := h.en E hE
      refine ⟨fun r hr => ?_, q.2⟩
      rcases List.mem_append.mp hr with hr | hr
      · exact q0.1 r hr
      · rcases List.mem_cons.mp hr with e | e
        · subst e; exact ⟨q0.2, fun x e => q.1 x e⟩
        · rw [List.mem_singleton.mp e]; exact q
    rw [show (R ++ [⟨some x, some l, none⟩, ⟨some l, be, v⟩] : List Row) = (R ++ [⟨some x, some l, none⟩]) ++ [⟨some l, be, v⟩] by simp, tell_snoc c1.bef, tell_snoc h.con.bef, tell_take w hk, h.te]
    by_cases c : Row.has ⟨some l, be, v⟩ p
    · rw [if_pos c, if_pos c]
    · rw [if_neg c, if_neg c]
      split
      · rename_i c'
        -- between the pieces nothing is told
        symm
        have := tell_none (R := R) (p := p) fun r hr q => bef_apart (h.con.bef (be := some l) (v := none) r hr) q c'
        rw [h.te] at this
        exact this
      · rfl

/-- what whole tells of pieces -/
structure Whole (ps R : List Row) : Prop where
  cov : Cov R
  te : ∀ p, tell R p = tell ps p
  few : R.length ≤ 2 * ps.length + 1
  en : ∀ E, EndsIn E ps → EndsIn E R
theorem Wh.close {ps : List Row} {R : List Row} {a : Option Int} (h : Wh ps ps.length R a) (c : R = [] ∨ a ≠ none) : Whole ps (R ++ [⟨a, none, none⟩]) := by
  have te := h.te
  rw [List.take_length] at te
  by_cases hR : R = []
  · subst hR
    have ha := h.z rfl
    subst ha
    refine ⟨⟨Con.one, by simp⟩, fun p => ?_, by simp, fun E hE r hr => ?_⟩
    · rw [← te]; simp [tell]
    · rw [List.nil_append] at hr
      rw [List.mem_singleton.mp hr]
      exact ⟨(fun x e => by cases e), fun x e => by cases e⟩
  · obtain ⟨x, rfl⟩ : ∃ x, a = some x := by
      cases a with
      | none => exact absurd rfl (c.resolve_left hR)
      | some x => exact ⟨x, rfl⟩
    refine ⟨⟨h.con.snoc hR (fun _ _ _ e => by cases e), by simp⟩, fun p => ?_, by have := h.few; simp; omega, fun E hE => ?_⟩
    · rw [tell_snoc h.con.bef, te]
      split
      · rename_i c'
        symm
        have := tell_none (R := R) (p := p) fun r hr q => bef_apart (h.con.bef (be := none) (v := none) r hr) q c'
        rw [te] at this
        exact this
      · rfl
    · exact (h.en E hE).1.snoc (h.en E hE).2 (fun x e => by cases e)
theorem Wh.done {ps : List Row} {R : List Row} (h : Wh ps ps.length R none) (hR : R ≠ []) : Whole ps R := by
  have te := h.te
  rw [List.take_length] at te
  exact ⟨⟨h.con, hR⟩, te, by have := h.few; omega, fun E hE => (h.en E hE).1⟩

/-! ### joined -/
/-- of two low ends the one farther to the right; of two behind the one farther to the left -/
def laterO : Option Int → Option Int → Option Int
  | none, y => y
  | x, none => x
  | some x, some y => some (if y > x then y else x)
def earlierO : Option Int → Option Int → Option Int
  | none, y => y
  | x, none => x
  | some x, some y => some (if y < x then y else x)
theorem later_le {x y : Option Int} {l : Int} (h : laterO x y = some l) : loLe x l ∧ loLe y l ∧ (x = some l ∨ y = some l) := by
  cases x <;> cases y
  · cases h
  · cases h; exact ⟨nofun, fun _ e => by cases e; exact Int.le_refl _, .inr rfl⟩
  · cases h; exact ⟨fun _ e => by cases e; exact Int.le_refl _, nofun, .inl rfl⟩
  · rename_i x y
    have h : some (if y > x then y else x) = some l := h
    have h := Option.some.inj h
    subst h
    refine ⟨fun _ e => by cases e; split <;> omega, fun _ e => by cases e; split <;> omega, ?_⟩
    split
    · exact .inr rfl
    · exact .inl rfl
theorem later_of {x y : Option Int} {l : Int} (h1 : loLe x l) (h2 : loLe y l) (h : x = some l ∨ y = some l) : laterO x y = some l := by
  cases x <;> cases y
  · simp at h
  · rcases h with h | h
    · cases h
    · cases h; rfl
  · rcases h with h | h
    · cases h; rfl
    · cases h
  · rename_i x y
    have a := h1 x rfl
    have b := h2 y rfl
    show some (if y > x then y else x) = some l
    congr 1
    rcases h with h | h <;> cases h <;> split <;> omega
theorem later_none {x y : Option Int} (h : laterO x y = none) : x = none ∧ y = none := by
  cases x <;> cases y
  · exact ⟨rfl, rfl⟩
  all_goals cases h
theorem earlier_some {x y : Option Int} {b : Int} (h : earlierO x y = some b) : (∀ z, x = some z → b ≤ z) ∧ (∀ z, y = some z → b ≤ z) ∧ (x = some b ∨ y = some b) := by
  cases x <;> cases y
  · cases h
  · cases h; exact ⟨nofun, fun _ e => by cases e; exact Int.le_refl _, .inr rfl⟩
  · cases h; exact ⟨fun _ e => by cases e; exact Int.le_refl _, nofun, .inl rfl⟩
  · rename_i x y
    have h : some (if y < x then y else x) = some b := h
    have h := Option.some.inj h
    subst h
    refine ⟨fun _ e => by cases e; split <;> omega, fun _ e => by cases e; split <;> omega, ?_⟩
    split
    · exact .inr rfl
    · exact .inl rfl
theorem earlier_none {x y : Option Int} (h : earlierO x y = none) : x = none ∧ y = none := by
  cases x <;> cases y
  · exact ⟨rfl, rfl⟩
  all_goals cases h

/-- the loop of joined: R made so far, i and j where it stands -/
structure Jn (A B : List Row) (f : Option Nat → Option Nat → Option Nat) (E : List Int) (i j : Nat) (R : List Row) : Prop where
  con : ∃ a, Con R a ∧ (R = [] → a = none ∧ i = 0 ∧ j = 0) ∧ (R ≠ [] → (a = none ∧ i = A.length ∧ j = B.length) ∨ (∃ x, a = some x ∧ ∃ r s, A[i]? = some r ∧ B[j]? = some s ∧ laterO r.lo s.lo = some x ∧ (∀ z, r.be = some z → x < z) ∧ (∀ z, s.be = some z → x < z)))
  te : ∀ r ∈ R, ∀ p, r.has p → r.v = f (tell A p) (tell B p)
  en : EndsIn E R
  few : R.length ≤ i + j
theorem Jn.zero {A B : List Row} {f : Option Nat → Option Nat → Option Nat} {E : List Int} : Jn A B f E 0 0 [] where
  con := ⟨none, ⟨by simp, by simp, by simp, by simp, List.Pairwise.nil⟩, fun _ => ⟨rfl, rfl, rfl⟩, fun h => absurd rfl h⟩
  te := by simp
  en := fun r hr => by simp at hr
  few := Nat.zero_le _
theorem Jn.step {A B : List Row} {f : Option Nat → Option Nat → Option Nat} {E : List Int} {i j : Nat} {R : List Row} (cA : Cov A) (cB : Cov B) (eA : EndsIn E A) (eB : EndsIn E B) (h : Jn A B f E i j R)
    {r s : Row} (hi : A[i]? = some r) (hj : B[j]? = some s) :
    okS (laterO r.lo s.lo) (earlierO r.be s.be) ∧
    Jn A B f E (if r.be = earlierO r.be s.be then i + 1 else i) (if s.be = earlierO r.be s.be then j + 1 else j) (R ++ [⟨laterO r.lo s.lo, earlierO r.be s.be, f r.v s.v⟩]) := by
  obtain ⟨⟨a, c, h0, h1⟩, te, en, few⟩ := h
  have okr := cA.con.ok r (List.mem_of_getElem? hi)
  have oks := cB.con.ok s (List.mem_of_getElem? hj)
  have mr := eA r (List.mem_of_getElem? hi)
  have ms := eB s (List.mem_of_getElem? hj)
  have hlt1 := (List.getElem?_eq_some_iff.mp hi).1
  have hlt2 := (List.getElem?_eq_some_iff.mp hj).1
  -- where it stands
  have ha : laterO r.lo s.lo = a ∧ (∀ x, a = some x → (∀ z, r.be = some z → x < z) ∧ (∀ z, s.be = some z → x < z)) ∧ (R = [] → a = none) ∧ (a = none → R = []) := by
    by_cases hR : R = []
    · obtain ⟨ea, e1, e2⟩ := h0 hR
      subst e1; subst e2; subst ea
      rw [cA.con.hd r hi, cB.con.hd s hj]
      exact ⟨rfl, (fun x e => by cases e), fun _ => rfl, fun _ => hR⟩
    · rcases h1 hR with ⟨_, e1, _⟩ | ⟨x, ea, r', s', hi', hj', el, b1, b2⟩
      · omega
      · rw [hi] at hi'; cases hi'
        rw [hj] at hj'; cases hj'
        subst ea
        exact ⟨el, (fun y e => by cases e; exact ⟨b1, b2⟩), fun z => absurd z hR, fun z => by cases z⟩
  obtain ⟨el, hbe, hn, hn'⟩ := ha
  have okm : okS (laterO r.lo s.lo) (earlierO r.be s.be) := fun l b e1 e2 => by
    rw [el] at e1
    obtain ⟨_, _, q⟩ := earlier_some e2
    rcases q with q | q
    · exact (hbe l e1).1 b q
    · exact (hbe l e1).2 b q
  refine ⟨okm, ?_⟩
  have hc : Con (R ++ [⟨laterO r.lo s.lo, earlierO r.be s.be, f r.v s.v⟩]) (earlierO r.be s.be) := by
    rw [el] at okm ⊢
    cases a with
    | none =>
      rw [hn' rfl]
      exact Con.one
    | some x => exact c.snoc (fun z => by have := hn z; cases this) okm
  -- what the new row tells
  have hnew : ∀ p, inS (laterO r.lo s.lo) (earlierO r.be s.be) p → f r.v s.v = f (tell A p) (tell B p) := fun p hp => by
    have h1 : r.has p := ⟨fun l e => ?_, fun b e => ?_⟩
    have h2 : s.has p := ⟨fun l e => ?_, fun b e => ?_⟩
    · rw [tell_at cA.con.wf hi h1, tell_at cB.con.wf hj h2]
    · cases q : laterO r.lo s.lo with
      | none => rw [(later_none q).2] at e; cases e
      | some x =>
        have := (later_le q).2.1 l e
        have := hp.1 x q
        omega
    · cases q : earlierO r.be s.be with
      | none => rw [(earlier_none q).2] at e; cases e
      | some x =>
        have := (earlier_some q).2.1 b e
        have := hp.2 x q
        omega
    · cases q : laterO r.lo s.lo with
      | none => rw [(later_none q).1] at e; cases e
      | some x =>
        have := (later_le q).1 l e
        have := hp.1 x q
        omega
    · cases q : earlierO r.be s.be with
      | none => rw [(earlier_none q).1] at e; cases e
      | some x =>
        have := (earlier_some q).1 b e
        have := hp.2 x q
        omega
  refine ⟨⟨earlierO r.be s.be, hc, by simp, fun _ => ?_⟩, fun q hq p hp => ?_, ?_, ?_⟩
  · cases q : earlierO r.be s.be with
    | none =>
      obtain ⟨e1, e2⟩ := earlier_none q
      have l1 := cA.last hi e1
      have l2 := cB.last hj e2
      left
      rw [if_pos e1, if_pos e2]
      exact ⟨rfl, l1, l2⟩
    | some x =>
      right
      refine ⟨x, rfl, ?_⟩
      obtain ⟨q1, q2, q3⟩ := earlier_some q
      -- the ones' next row
      have hA : ∃ r', A[if r.be = some x then i + 1 else i]? = some r' ∧ loLe r'.lo x ∧ (∀ z, r'.be = some z → x < z) ∧ (r.be = some x → r'.lo = some x) := by
        by_cases c' : r.be = some x
        · rw [if_pos c']
          obtain ⟨r', hr', e'⟩ := cA.next hi c'
          exact ⟨r', hr', (fun l e => by rw [e'] at e; cases e; exact Int.le_refl _), fun z ez => cA.con.ok r' (List.mem_of_getElem? hr') x z e' ez, fun _ => e'⟩
        · rw [if_neg c']
          refine ⟨r, hi, fun l e => ?_, fun z ez => ?_, fun z => absurd z c'⟩
          · rcases Option.eq_none_or_eq_some a with ea | ⟨y, ea⟩
            · rw [ea] at el; rw [(later_none el).1] at e; cases e
            · rw [ea] at el
              have := (later_le el).1 l e
              have := okm y x el q
              omega
          · have := q1 z ez
            have : x ≠ z := fun w => c' (by rw [w]; exact ez)
            omega
      have hB : ∃ s', B[if s.be = some x then j + 1 else j]? = some s' ∧ loLe s'.lo x ∧ (∀ z, s'.be = some z → x < z) ∧ (s.be = some x → s'.lo = some x) := by
        by_cases c' : s.be = some x
        · rw [if_pos c']
          obtain ⟨r', hr', e'⟩ := cB.next hj c'
          exact ⟨r', hr', (fun l e => by rw [e'] at e; cases e; exact Int.le_refl _), fun z ez => cB.con.ok r' (List.mem_of_getElem? hr') x z e' ez, fun _ => e'⟩
        · rw [if_neg c']
          refine ⟨s, hj, fun l e => ?_, fun z ez => ?_, fun z => absurd z c'⟩
          · rcases Option.eq_none_or_eq_some a with ea | ⟨y, ea⟩
            · rw [ea] at el; rw [(later_none el).2] at e; cases e
            · rw [ea] at el
              have := (later_le el).2.1 l e
              have := okm y x el q
              omega
          · have := q2 z ez
            have : x ≠ z := fun w => c' (by rw [w]; exact ez)
            omega
      obtain ⟨r', a1, a2, a3, a4⟩ := hA
      obtain ⟨s', b1, b2, b3, b4⟩ := hB
      refine ⟨r', s', a1, b1, later_of a2 b2 ?_, a3, b3⟩
      rcases q3 with z | z
      · exact .inl (a4 z)
      · exact .inr (b4 z)
  · rcases List.mem_append.mp hq with z | z
    · exact te q z p hp
    · rw [List.mem_singleton.mp z] at hp ⊢
      exact hnew p hp
  · refine en.snoc (fun x e => ?_) (fun x e => ?_)
    · rcases (later_le e).2.2 with z | z
      · exact mr.1 x z
      · exact ms.1 x z
    · rcases (earlier_some e).2.2 with z | z
      · exact mr.2 x z
      · exact ms.2 x z
  · rw [List.length_append, List.length_singleton]
    have : r.be = earlierO r.be s.be ∨ s.be = earlierO r.be s.be := by
      cases q : earlierO r.be s.be with
      | none => exact .inl (earlier_none q).1
      | some x => exact (earlier_some q).2.2
    rcases this with z | z
    · rw [if_pos z]; split <;> omega
    · rw [if_pos z]; split <;> omega

/-- the whole line has every place -/
theorem Cov.all {R : List Row} (c : Cov R) (p : Int) : ∃ r ∈ R, r.has p := by
  have go : ∀ (k : Nat) (r : Row), R[k]? = some r → (∃ q ∈ R, q.has p) ∨ loLe r.lo p := by
    intro k
    induction k with
    | zero =>
      intro r h
      right
      intro l e
      rw [c.con.hd r h] at e; cases e
    | succ k ih =>
      intro r h
      have hl := (List.getElem?_eq_some_iff.mp h).1
      have hk : R[k]? = some (R[k]'(by omega)) := List.getElem?_eq_getElem _
      rcases ih _ hk with q | q
      · exact .inl q
      · obtain ⟨b, e1, e2⟩ := c.con.nx k _ r hk h
        by_cases hp : p < b
        · exact .inl ⟨_, List.getElem_mem _, q, fun x ex => by rw [e1] at ex; cases ex; exact hp⟩
        · exact .inr fun l e => by rw [e2] at e; cases e; omega
  have hl : 0 < R.length := List.length_pos_iff.mpr c.ne
  have hk : R[R.length - 1]? = some (R[R.length - 1]'(by omega)) := List.getElem?_eq_getElem _
  rcases go _ _ hk with q | q
  · exact q
  · refine ⟨_, List.getElem_mem _, q, fun x e => ?_⟩
    have := c.con.la _ (by rw [List.getLast?_eq_getElem?]; exact hk)
    rw [e] at this; cases this
structure Joint (A B : List Row) (f : Option Nat → Option Nat → Option Nat) (E : List Int) (R : List Row) : Prop where
  cov : Cov R
  te : ∀ p, tell R p = f (tell A p) (tell B p)
  en : EndsIn E R
  few : R.length ≤ A.length + B.length
theorem Jn.end_ {A B : List Row} {f : Option Nat → Option Nat → Option Nat} {E : List Int} {i j : Nat} {R : List Row} (cA : Cov A) (cB : Cov B) (h : Jn A B f E i j R) (q : ¬ (i < A.length ∧ j < B.length)) : Joint A B f E R := by
  obtain ⟨⟨a, c, h0, h1⟩, te, en, few⟩ := h
  have hA : 0 < A.length := List.length_pos_iff.mpr cA.ne
  have hB : 0 < B.length := List.length_pos_iff.mpr cB.ne
  have hR : R ≠ [] := fun z => by
    obtain ⟨_, e1, e2⟩ := h0 z
    exact q ⟨by omega, by omega⟩
  rcases h1 hR with ⟨e, e1, e2⟩ | ⟨x, _, r, s, hi, hj, _⟩
  · subst e
    refine ⟨⟨c, hR⟩, fun p => ?_, en, by omega⟩
    obtain ⟨r, hr, hp⟩ := Cov.all ⟨c, hR⟩ p
    rw [tell_mem c.pw hr hp]
    exact te r hr p hp
  · exact absurd ⟨(List.getElem?_eq_some_iff.mp hi).1, (List.getElem?_eq_some_iff.mp hj).1⟩ q

/-! ### knit -/
structure Kn (R : List Row) (E : List Int) (i : Nat) (F : List Row) : Prop where
  wf : WF F
  te : ∀ p, tell F p = tell (R.take i) p
  val : ∀ r ∈ F, ∃ v, r.v = some v
  bef : ∀ q ∈ F, ∀ (j : Nat) (r : Row), R[j]? = some r → i ≤ j → q.bef r
  en : EndsIn E F
  few : F.length ≤ i
theorem Kn.zero {R : List Row} {E : List Int} : Kn R E 0 [] := ⟨WF.nil, fun p => by rw [List.take_zero], by simp, by simp, fun r hr => by simp at hr, Nat.le_refl _⟩
theorem Kn.skip {R : List Row} {E : List Int} {i : Nat} {F : List Row} (w : WF R) (k : Kn R E i F) {r : Row} (hi : R[i]? = some r) (hv : r.v = none) : Kn R E (i + 1) F := by
  refine ⟨k.wf, fun p => ?_, k.val, fun q hq j s hj hle => k.bef q hq j s hj (by omega), k.en, by have := k.few; omega⟩
  rw [tell_take w hi, ← k.te, hv]
  split
  · rename_i c
    exact tell_none fun q hq z => bef_apart (k.bef q hq i r hi (Nat.le_refl _)) z c
  · rfl
theorem Kn.add {R : List Row} {E : List Int} {i : Nat} {F : List Row} (w : WF R) (e : EndsIn E R) (k : Kn R E i F) {r : Row} {v : Nat} (hi : R[i]? = some r) (hv : r.v = some v) : Kn R E (i + 1) (F ++ [r]) := by
  have hm := List.mem_of_getElem? hi
  have hb : ∀ q ∈ F, q.bef r := fun q hq => k.bef q hq i r hi (Nat.le_refl _)
  refine ⟨k.wf.snoc (w.ok r hm) hb, fun p => ?_, fun q hq => ?_, fun q hq j s hj hle => ?_, k.en.snoc (e r hm).1 (e r hm).2, by have := k.few; simp; omega⟩
  · rw [tell_take w hi, tell_snoc hb, ← k.te]
  · rcases List.mem_append.mp hq with z | z
    · exact k.val q z
    · rw [List.mem_singleton.mp z]; exact ⟨v, hv⟩
  · rcases List.mem_append.mp hq with z | z
    · exact k.bef q z j s hj (by omega)
    · rw [List.mem_singleton.mp z]; exact w.bef_at hi hj (by omega)
theorem Kn.merge {R : List Row} {E : List Int} {i : Nat} {F : List Row} (w : WF R) (e : EndsIn E R) {l r : Row} (k : Kn R E i (F ++ [l])) {v : Nat} (hi : R[i]? = some r) (hv : r.v = some v) (hl : l.v = some v) (hb : l.be = r.lo) :
    Kn R E (i + 1) (F ++ [⟨l.lo, r.be, some v⟩]) := by
  have hm := List.mem_of_getElem? hi
  have hlm : l ∈ F ++ [l] := by simp
  obtain ⟨b, x, e1, e2, _⟩ := k.bef l hlm i r hi (Nat.le_refl _)
  rw [e1, e2] at hb
  cases hb
  have okl := k.wf.ok l hlm
  have okr := w.ok r hm
  have pw := List.pairwise_append.mp k.wf.pw
  have hbl : ∀ q ∈ F, q.bef l := fun q hq => pw.2.2 q hq l (by simp)
  have hbn : ∀ q ∈ F, q.bef ⟨l.lo, r.be, some v⟩ := fun q hq => by
    obtain ⟨b', l', a1, a2, a3⟩ := hbl q hq
    exact ⟨b', l', a1, a2, a3⟩
  have wF : WF F := ⟨fun q hq => k.wf.ok q (by simp [hq]), pw.1⟩
  have okn : Row.ok ⟨l.lo, r.be, some v⟩ := fun y z ey ez => by
    have := okl y b ey e1
    have := okr b z e2 ez
    omega
  refine ⟨wF.snoc okn hbn, fun p => ?_, fun q hq => ?_, fun q hq j s hj hle => ?_, ?_, by have := k.few; simp at this ⊢; omega⟩
  · rw [tell_take w hi, tell_snoc hbn, ← k.te, tell_snoc hbl, hv, hl]
    show (if inS l.lo r.be p then some v else tell F p) = _
    by_cases c1 : r.has p
    · have : inS l.lo r.be p := ⟨fun y ey => by have := okl y b ey e1; have := c1.1 b e2; omega, c1.2⟩
      rw [if_pos c1, if_pos this]
    · rw [if_neg c1]
      by_cases c2 : l.has p
      · have : inS l.lo r.be p := ⟨c2.1, fun z ez => by have := c2.2 b e1; have := okr b z e2 ez; omega⟩
        rw [if_pos c2, if_pos this]
      · have : ¬ inS l.lo r.be p := fun z => by
          by_cases hp : p < b
          · exact c2 ⟨z.1, fun y ey => by rw [e1] at ey; cases ey; exact hp⟩
          · exact c1 ⟨fun y ey => by rw [e2] at ey; cases ey; omega, z.2⟩
        rw [if_neg c2, if_neg this]
  · rcases List.mem_append.mp hq with z | z
    · exact k.val q (by simp [z])
    · rw [List.mem_singleton.mp z]; exact ⟨v, rfl⟩
  · rcases List.mem_append.mp hq with z | z
    · exact k.bef q (by simp [z]) j s hj (by omega)
    · rw [List.mem_singleton.mp z]
      obtain ⟨b', l', a1, a2, a3⟩ := w.bef_at hi hj (by omega)
      exact ⟨b', l', a1, a2, a3⟩
  · have kF : EndsIn E F := fun q hq => k.en q (by simp [hq])
    exact kF.snoc (k.en l hlm).1 (e r hm).2
/-- pieces: a map -/
structure Map (E : List Int) (ps : List Row) : Prop where
  wf : WF ps
  val : ∀ r ∈ ps, ∃ v, r.v = some v
  en : EndsIn E ps
theorem Map.nil {E : List Int} : Map E [] := ⟨WF.nil, by simp, fun r hr => by simp at hr⟩
theorem Map.few {E : List Int} {ps : List Row} (m : Map E ps) : ps.length ≤ E.length + 1 := wf_len m.wf m.en
theorem Kn.done {R : List Row} {E : List Int} {F : List Row} (k : Kn R E R.length F) : Map E F ∧ ∀ p, tell F p = tell R p :=
  ⟨⟨k.wf, k.val, k.en⟩, fun p => by rw [k.te, List.take_length]⟩
/-- one piece -/
theorem Map.one {E : List Int} {lo be : Option Int} {v : Nat} (o : okS lo be) (h1 : ∀ x, lo = some x → x ∈ E) (h2 : ∀ x, be = some x → x ∈ E) : Map E [⟨lo, be, some v⟩] where
  wf := ⟨fun r hr => by rw [List.mem_singleton.mp hr]; exact o, List.pairwise_singleton _ _⟩
  val := fun r hr => by rw [List.mem_singleton.mp hr]; exact ⟨v, rfl⟩
  en := fun r hr => by rw [List.mem_singleton.mp hr]; exact ⟨h1, h2⟩

/-! ### sets of numbers as bits -/
def withBits : Option Nat → Option Nat → Option Nat
  | none, y => y
  | x, none => x
  | some x, some y => some (x ||| y)
def withoutBits : Option Nat → Option Nat → Option Nat
  | none, _ => none
  | x, none => x
  | some x, some y => if x &&& y = x then none else some (x ^^^ (x &&& y))
/-- the k-th lies -/
def bitO (o : Option Nat) (k : Nat) : Bool := match o with
  | none => false
  | some b => b.testBit k
theorem bit_pow (i k : Nat) : (2 ^ i).testBit k = decide (i = k) := Nat.testBit_two_pow
theorem bit_lay (o : Option Nat) (i k : Nat) : bitO (withBits o (some (2 ^ i))) k = (decide (i = k) || bitO o k) := by
  cases o with
  | none => show (2 ^ i).testBit k = _; rw [bit_pow]; simp [bitO]
  | some b =>
    show (b ||| 2 ^ i).testBit k = _
    rw [Nat.testBit_or, bit_pow, Bool.or_comm]; rfl
theorem bit_lay0 (o : Option Nat) (k : Nat) : bitO (withBits o none) k = bitO o k := by cases o <;> rfl
theorem bit_lift (o : Option Nat) (i k : Nat) : bitO (withoutBits o (some (2 ^ i))) k = (!decide (i = k) && bitO o k) := by
  cases o with
  | none => simp [withoutBits, bitO]
  | some b =>
    show bitO (if b &&& 2 ^ i = b then none else some (b ^^^ (b &&& 2 ^ i))) k = _
    split
    · rename_i h
      have : b.testBit k = (b.testBit k && decide (i = k)) := by
        rw [← bit_pow, ← Nat.testBit_and, h]
      show false = (!decide (i = k) && b.testBit k)
      rw [this]; cases decide (i = k) <;> simp
    · show (b ^^^ (b &&& 2 ^ i)).testBit k = (!decide (i = k) && b.testBit k)
      rw [Nat.testBit_xor, Nat.testBit_and, bit_pow]
      cases b.testBit k <;> cases decide (i = k) <;> rfl
theorem bit_lift0 (o : Option Nat) (k : Nat) : bitO (withoutBits o none) k = bitO o k := by cases o <;> rfl
end Sm

namespace Sm
open PySem L2
/-! ### the text by places -/
def top (i : Nat) : Stmt := PySem.Challenge.pw_spanmap_k73_names_at.main.body.getD i (.Pass ⟨0, 0, 0, 0⟩)
abbrev sBegun : Stmt := top 5
abbrev sValue : Stmt := top 6
abbrev sLater : Stmt := top 8
abbrev sEarlier : Stmt := top 9
abbrev sIsSpan : Stmt := top 10
abbrev sMeet : Stmt := top 11
abbrev sKnit : Stmt := top 13
abbrev sWhole : Stmt := top 15
abbrev sJoined : Stmt := top 16
abbrev sIsName : Stmt := top 19
abbrev sWith : Stmt := top 22
abbrev sWithout : Stmt := top 23
abbrev sInit : Stmt := inClass (top 24) 0
abbrev sNumber : Stmt := inClass (top 24) 1
abbrev sLay : Stmt := inClass (top 24) 2
abbrev sLift : Stmt := inClass (top 24) 3
abbrev sNamesAt : Stmt := inClass (top 24) 4
abbrev sCellAt : Stmt := top 26
abbrev sNames : Stmt := top 27
abbrev sGreat : Stmt := top 28
abbrev sOver : Stmt := top 29
abbrev sHas : Stmt := top 30
abbrev sDue : Stmt := top 31
abbrev sIs : Stmt := top 32
abbrev sLaw : Stmt := top 33
/-! ### the built-in names, not written over -/
structure Bi (mg : Str → Option Value) : Prop where
  len : mg "len" = none
  all : mg "all" = none
  sorted : mg "sorted" = none
  set : mg "set" = none
  list : mg "list" = none
  reversed : mg "reversed" = none
  range : mg "range" = none
  enumerate : mg "enumerate" = none
  isinstance : mg "isinstance" = none
  str : mg "str" = none
  int : mg "int" = none
  min : mg "min" = none
  max : mg "max" = none
/-! ### values -/
def oV : Option Int → V
  | none => .non
  | some i => .int i
def nV : Option Nat → V
  | none => .non
  | some n => .int (n : Int)
theorem oV_inj {x y : Option Int} (h : oV x = oV y) : x = y := by
  cases x <;> cases y
  · rfl
  · cases h
  · cases h
  · have h : V.int _ = V.int _ := h
    rw [V.int.inj h]
theorem nV_inj {x y : Option Nat} (h : nV x = nV y) : x = y := by
  cases x <;> cases y
  · rfl
  · cases h
  · cases h
  · have h : V.int _ = V.int _ := h
    have h := V.int.inj h
    rw [Int.ofNat.inj h]
theorem scal_oV (x y : Option Int) : scal (oV x) (oV y) = true := by cases x <;> cases y <;> rfl
theorem scal_nV (x y : Option Nat) : scal (nV x) (nV y) = true := by cases x <;> cases y <;> rfl
theorem dec_oV (x y : Option Int) : decide (oV x = oV y) = decide (x = y) := by
  by_cases h : x = y
  · subst h; simp
  · rw [decide_eq_false h, decide_eq_false fun z => h (oV_inj z)]
theorem dec_nV (x y : Option Nat) : decide (nV x = nV y) = decide (x = y) := by
  by_cases h : x = y
  · subst h; simp
  · rw [decide_eq_false h, decide_eq_false fun z => h (nV_inj z)]
def rowV (r : Row) : List V := [oV r.lo, oV r.be, nV r.v]
/-! ### tests whose answer is known -/
theorem ifT {c A B : Prop} [Decidable c] (hc : c) (h : A) : if decide c = true then A else B := by
  rw [if_pos (decide_eq_true hc)]; exact h
theorem ifF {c A B : Prop} [Decidable c] (hc : ¬ c) (h : B) : if decide c = true then A else B := by
  rw [if_neg (by rw [decide_eq_false hc]; exact Bool.false_ne_true)]; exact h
theorem ifNT {c A B : Prop} [Decidable c] (hc : ¬ c) (h : A) : if (!decide c) = true then A else B := by
  rw [decide_eq_false hc]; exact iteT h
theorem ifNF {c A B : Prop} [Decidable c] (hc : c) (h : B) : if (!decide c) = true then A else B := by
  rw [decide_eq_true hc]; exact iteF h
theorem ifB {b : Bool} {A B : Prop} (h1 : b = true → A) (h2 : b = false → B) : if b = true then A else B := by
  cases b
  · exact iteF (h2 rfl)
  · exact iteT (h1 rfl)
/-- a value in another form -/
theorem eqQ {Q : V → Hp → Prop} {x y : V} {H : Hp} (e : x = y) (h : Q y H) : Q x H := by rw [e]; exact h
/-! ### heaps -/
theorem same_upd {H : Hp} {p : Addr} {o : HO} (h : H p = none) : Same H (upd H p o) := fun b x e => by
  rw [upd_ne (ne_of_none e h)]
  exact e
/-- x is a tuple of the row -/
def RowX (H : Hp) (x : V) (r : Row) : Prop := ∃ t, x = .ref t ∧ H t = some (.tup (rowV r))
structure RowsX (H : Hp) (xs : List V) (R : List Row) : Prop where
  len : xs.length = R.length
  at_ : ∀ (i : Nat) (x : V) (r : Row), xs[i]? = some x → R[i]? = some r → RowX H x r
theorem RowsX.nil {H : Hp} : RowsX H [] [] := ⟨rfl, fun i x r h => by simp at h⟩
theorem RowX.mono {H H' : Hp} {x : V} {r : Row} (h : RowX H x r) (s : ∀ b xs, H b = some (.tup xs) → H' b = some (.tup xs)) : RowX H' x r := by
  obtain ⟨t, e, ht⟩ := h
  exact ⟨t, e, s _ _ ht⟩
theorem RowsX.mono {H H' : Hp} {xs : List V} {R : List Row} (h : RowsX H xs R) (s : ∀ b xs, H b = some (.tup xs) → H' b = some (.tup xs)) : RowsX H' xs R :=
  ⟨h.len, fun i x r a b => (h.at_ i x r a b).mono s⟩
theorem RowsX.get {H : Hp} {xs : List V} {R : List Row} (h : RowsX H xs R) {i : Nat} {x : V} (e : xs[i]? = some x) : ∃ r, R[i]? = some r ∧ RowX H x r := by
  have hl := (List.getElem?_eq_some_iff.mp e).1
  rw [h.len] at hl
  exact ⟨_, List.getElem?_eq_getElem hl, h.at_ i x _ e (List.getElem?_eq_getElem hl)⟩
theorem RowsX.getR {H : Hp} {xs : List V} {R : List Row} (h : RowsX H xs R) {i : Nat} {r : Row} (e : R[i]? = some r) : ∃ x, xs[i]? = some x ∧ RowX H x r := by
  have hl := (List.getElem?_eq_some_iff.mp e).1
  rw [← h.len] at hl
  exact ⟨_, List.getElem?_eq_getElem hl, h.at_ i _ r (List.getElem?_eq_getElem hl) e⟩
theorem RowsX.snoc {H : Hp} {xs : List V} {R : List Row} {x : V} {r : Row} (h : RowsX H xs R) (k : RowX H x r) : RowsX H (xs ++ [x]) (R ++ [r]) := by
  refine ⟨by rw [List.length_append, List.length_append, h.len]; rfl, fun i y s a b => ?_⟩
  by_cases c : i < xs.length
  · rw [List.getElem?_append_left c] at a
    rw [List.getElem?_append_left (by rw [← h.len]; exact c)] at b
    exact h.at_ i y s a b
  · rw [List.getElem?_append_right (by omega)] at a
    rw [List.getElem?_append_right (by have := h.len; omega), ← h.len] at b
    have : i - xs.length = 0 := by
      have := (List.getElem?_eq_some_iff.mp a).1
      simp at this; omega
    rw [this] at a b
    cases a; cases b
    exact k
theorem RowsX.init {H : Hp} {xs : List V} {R : List Row} {x : V} {r : Row} (h : RowsX H (xs ++ [x]) (R ++ [r])) : RowsX H xs R ∧ RowX H x r := by
  have hl : xs.length = R.length := by have := h.len; simp at this; exact this
  refine ⟨⟨hl, fun i y s a b => h.at_ i y s ?_ ?_⟩, h.at_ xs.length x r ?_ ?_⟩
  · rw [List.getElem?_append_left (List.getElem?_eq_some_iff.mp a).1]; exact a
  · rw [List.getElem?_append_left (List.getElem?_eq_some_iff.mp b).1]; exact b
  · rw [List.getElem?_append_right (Nat.le_refl _), Nat.sub_self]; rfl
  · rw [hl, List.getElem?_append_right (Nat.le_refl _), Nat.sub_self]; rfl
theorem ntup {H : Hp} {p : Addr} {o : HO} (h : H p = some o) (ho : ∀ xs, o ≠ .tup xs) (u : HO) : ∀ b xs, H b = some (.tup xs) → (upd H p u) b = some (.tup xs) := fun b xs e => by
  rw [upd_ne fun z => by subst z; rw [h] at e; exact ho xs (Option.some.inj e)]
  exact e
/-! ### defs that are called by their names -/
/-- a def of the top -/
structure Dfn (K : PySem.W.Frag) (mg : Str → Option Value) (x : Str) (ps : List Str) (st : Stmt) (f : Addr) (fd : FuncData) : Prop where
  fn : Fun K x x st f fd
  mgf : mg x = some (.ref f)
  b : Binds K fd ps []
/-- its promise -/
structure Cal (P : Program) (w : World) (K : PySem.W.Frag) (mg : Str → Option Value) (base : Heap) (k : Nat) (x : Str) (sp : Sp) : Prop where
  ex : ∃ (f : Addr) (fd : FuncData) (ps : List Str), FnOk P w K mg base CX0 k f fd ps sp ∧ mg x = some (.ref f) ∧ PySem.W.keepIn K (.ref f) = true ∧ Binds K fd ps []
theorem Dfn.cal {P : Program} {w : World} {K : PySem.W.Frag} {mg : Str → Option Value} {base : Heap} {k : Nat} {x : Str} {ps : List Str} {st : Stmt} {f : Addr} {fd : FuncData} {sp : Sp} (D : Dfn K mg x ps st f fd)
    (G : FnOk P w K mg base CX0 k f fd ps sp) : Cal P w K mg base k x sp := ⟨f, fd, ps, G, D.mgf, D.fn.kp, D.b⟩
theorem pcal {X : Cx} {k j : Nat} {x : Str} {sp : Sp} {p pos : Pos} {e : Expr} {es : List Expr} {t : TA} (c : Cal X.prog X.w X.K X.mg X.base k x sp) (hr : Room j X.A) (hk : k ≤ j) (hg : Gl X x) (ha : PA X (e :: es) t)
    (hdb : (x == ("__debug__" : Str)) = false := by decide) (he : starEach (e :: es) X.env = (false, eval e X.env) :: starEach es X.env := by rfl) (hpl : (backTo pos (starEach es X.env)).any (·.1) = false := by rfl) :
    PE X (.Call (.Name x p) (e :: es) [] pos) (tCall sp [] E0 t) := by
  obtain ⟨f, fd, ps, G, hm, kp, b⟩ := c.ex
  exact pe_call G (hr.mono hk) hg hm kp b .nil pass0 ha hdb he hpl
/-! ### data that == reads -/
def Nice (K : PySem.W.Frag) (H : Hp) (x : V) : Prop := ∃ d, Dp K H x d ∧ d.canLay0 = true ∧ d.depth ≤ 60
theorem nice_all {K : PySem.W.Frag} {H : Hp} : ∀ {xs : List V}, (∀ x ∈ xs, Nice K H x) → ∃ ds, DpAll K H xs ds ∧ PyData.canLayAll0 ds = true ∧ PyData.depthAll ds ≤ 60 ∧ ds.length = xs.length
  | [], _ => ⟨[], .nil, rfl, Nat.zero_le _, rfl⟩
  | x :: xs, h => by
    obtain ⟨d, h1, h2, h3⟩ := h x List.mem_cons_self
    obtain ⟨ds, a1, a2, a3, a4⟩ := nice_all fun y hy => h y (List.mem_cons_of_mem _ hy)
    refine ⟨d :: ds, .cons h1 a1, ?_, ?_, by rw [List.length_cons, List.length_cons, a4]⟩
    · rw [PyData.canLayAll0, h2, a2]; rfl
    · rw [PyData.depthAll]; omega
theorem eqv_nil : ∀ ds : List PyData, PyData.eqvAll ds [] = ds.isEmpty
  | [] => by rw [PyData.eqvAll]; rfl
  | _ :: _ => by rw [PyData.eqvAll]; rfl
theorem nice_list {K : PySem.W.Frag} {H : Hp} {a : Addr} {xs : List V} (h : ∀ x ∈ xs, Nice K H x) (hS : SqL K H a xs) : ∃ ds, Dp K H (.ref a) (.list ds) ∧ SeqAt.shaped (.list ds) = true ∧ ds.isEmpty = xs.isEmpty := by
  obtain ⟨ds, a1, a2, a3, a4⟩ := nice_all h
  refine ⟨ds, .lst hS a1, ?_, ?_⟩
  · unfold SeqAt.shaped
    rw [PyData.canLay0, a2, PyData.depth]
    exact decide_eq_true (by omega)
  · cases ds <;> cases xs <;> first | rfl | (simp at a4)
theorem nil_shaped : SeqAt.shaped (.list []) = true := by decide +kernel
/-- xs == [], xs != [] -/
theorem rEq_nil {K : PySem.W.Frag} {H : Hp} {a l : Addr} {xs : List V} {Q : VK} (hn : ∀ x ∈ xs, Nice K H x) (h1 : SqL K H a xs) (h2 : SqL K H l []) (q : Q (.bl xs.isEmpty) H) : rEqD K (.ref a) (.ref l) H Q := by
  obtain ⟨ds, a1, a2, a3⟩ := nice_list hn h1
  refine ⟨.list ds, .list [], a1, .lst h2 .nil, a2, nil_shaped, ?_⟩
  rw [PyData.eqv, eqv_nil, a3]; exact q
theorem rNe_nil {K : PySem.W.Frag} {H : Hp} {a l : Addr} {xs : List V} {Q : VK} (hn : ∀ x ∈ xs, Nice K H x) (h1 : SqL K H a xs) (h2 : SqL K H l []) (q : Q (.bl (!xs.isEmpty)) H) : rNeD K (.ref a) (.ref l) H Q := by
  obtain ⟨ds, a1, a2, a3⟩ := nice_list hn h1
  refine ⟨.list ds, .list [], a1, .lst h2 .nil, a2, nil_shaped, ?_⟩
  rw [PyData.eqv, eqv_nil, a3]; exact q
theorem nice_oV {K : PySem.W.Frag} {H : Hp} (x : Option Int) : ∃ d, Dp K H (oV x) d ∧ d.canLay0 = true ∧ d.depth = 0 := by
  cases x with
  | none => exact ⟨.none, .non, by rw [PyData.canLay0], by rw [PyData.depth] <;> nofun⟩
  | some i => exact ⟨.int i, .int i, by rw [PyData.canLay0], by rw [PyData.depth] <;> nofun⟩
theorem nice_nV {K : PySem.W.Frag} {H : Hp} (x : Option Nat) : ∃ d, Dp K H (nV x) d ∧ d.canLay0 = true ∧ d.depth = 0 := by
  cases x with
  | none => exact nice_oV none
  | some i => exact nice_oV (some (i : Int))
theorem nice_int {K : PySem.W.Frag} {H : Hp} (i : Int) : Nice K H (.int i) := by
  obtain ⟨d, h1, h2, h3⟩ := nice_oV (K := K) (H := H) (some i)
  exact ⟨d, h1, h2, by omega⟩
theorem nice_row {K : PySem.W.Frag} {H : Hp} {x : V} {r : Row} (h : RowX H x r) : Nice K H x := by
  obtain ⟨t, rfl, ht⟩ := h
  obtain ⟨d1, a1, a2, a3⟩ := nice_oV (K := K) (H := H) r.lo
  obtain ⟨d2, b1, b2, b3⟩ := nice_oV (K := K) (H := H) r.be
  obtain ⟨d3, c1, c2, c3⟩ := nice_nV (K := K) (H := H) r.v
  refine ⟨.tuple [d1, d2, d3], .tup (SqT.of ht) (.cons a1 (.cons b1 (.cons c1 .nil))), ?_, ?_⟩
  · simp only [PyData.canLay0, PyData.canLayAll0, a2, b2, c2, Bool.and_self]
  · simp only [PyData.depth, PyData.depthAll, a3, b3, c3]; decide
theorem RowsX.nice {K : PySem.W.Frag} {H : Hp} {xs : List V} {R : List Row} (h : RowsX H xs R) : ∀ x ∈ xs, Nice K H x := fun x hx => by
  obtain ⟨i, hi⟩ := List.getElem?_of_mem hx
  obtain ⟨r, _, hr⟩ := h.get hi
  exact nice_row hr
theorem RowsX.emp {H : Hp} {xs : List V} {R : List Row} (h : RowsX H xs R) : xs.isEmpty = R.isEmpty := by
  have := h.len
  cases xs <;> cases R <;> first | rfl | (simp at this)
/-- the last one -/
theorem snoc_of {α : Type} {l : List α} (h : l ≠ []) : ∃ l0 x, l = l0 ++ [x] := ⟨l.dropLast, l.getLast h, (List.dropLast_concat_getLast h).symm⟩
theorem ixN_last (n : Nat) : ixN (n + 1) (-1) = some n := by
  unfold ixN
  rw [if_neg (by decide), if_pos (by omega)]
  congr 1
  omega
theorem set_last {α : Type} : ∀ (l : List α) (x y : α), (l ++ [x]).set l.length y = l ++ [y]
  | [], _, _ => rfl
  | a :: l, x, y => by
    show a :: (l ++ [x]).set l.length y = a :: (l ++ [y])
    rw [set_last l x y]
end Sm

namespace Sm
open PySem L2
section
variable {P : Program} {w : World} {K : PySem.W.Frag} {mg : Str → Option Value} {base : Heap}
theorem scLater : FnScope ["one", "other"] ["one", "other"] (defScope sLater) := ⟨rfl, rfl, rfl, by decide +kernel, rfl, by decide +kernel, by decide +kernel⟩
def spLater : Sp := fun vs H Q _ => ∃ x y : Option Int, vs = [oV x, oV y] ∧ Q (oV (laterO x y)) H
theorem ok_later {f : Addr} {fd : FuncData} (F : Fun K "later" "later" sLater f fd) (T : Bi mg) : FnOk P w K mg base CX0 1 f fd ["one", "other"] spLater := by
  refine F.ok scLater (fun vs H Q E h => ?_) (fun cdv A outer s H vs Q E hr h => ?_)
  · obtain ⟨x, y, rfl, _⟩ := h
    rfl
  · obtain ⟨x, y, rfl, k⟩ := h
    refine ⟨_, pss_cons (ps_if (pt_cmpR op_isN (pv 0) pe_non (nomark _)) (pss_one (ps_ret (pv 1))) pss_nil)
      (pss_cons (ps_if (pt_cmpR op_isN (pv 1) pe_non (nomark _)) (pss_one (ps_ret (pv 0))) pss_nil)
      (pss_one (ps_ret (pe_callB (call_max2 rfl) (by rfl) T.max (by decide +kernel) (pa_cons (pv 0) (pa_cons (pv 1) pa_nil)))))), ?_⟩
    cases x with
    | none => exact ⟨_, rfl, rfl, _, rfl, ifT rfl ⟨_, rfl, k⟩⟩
    | some i =>
      refine ⟨_, rfl, rfl, _, rfl, ifF nofun ?_⟩
      cases y with
      | none => exact ⟨_, rfl, rfl, _, rfl, ifT rfl ⟨_, rfl, k⟩⟩
      | some j =>
        refine ⟨_, rfl, rfl, _, rfl, ifF nofun ?_⟩
        exact ⟨_, rfl, _, rfl, _, _, rfl, k⟩
theorem scEarlier : FnScope ["one", "other"] ["one", "other"] (defScope sEarlier) := ⟨rfl, rfl, rfl, by decide +kernel, rfl, by decide +kernel, by decide +kernel⟩
def spEarlier : Sp := fun vs H Q _ => ∃ x y : Option Int, vs = [oV x, oV y] ∧ Q (oV (earlierO x y)) H
theorem ok_earlier {f : Addr} {fd : FuncData} (F : Fun K "earlier" "earlier" sEarlier f fd) (T : Bi mg) : FnOk P w K mg base CX0 1 f fd ["one", "other"] spEarlier := by
  refine F.ok scEarlier (fun vs H Q E h => ?_) (fun cdv A outer s H vs Q E hr h => ?_)
  · obtain ⟨x, y, rfl, _⟩ := h
    rfl
  · obtain ⟨x, y, rfl, k⟩ := h
    refine ⟨_, pss_cons (ps_if (pt_cmpR op_isN (pv 0) pe_non (nomark _)) (pss_one (ps_ret (pv 1))) pss_nil)
      (pss_cons (ps_if (pt_cmpR op_isN (pv 1) pe_non (nomark _)) (pss_one (ps_ret (pv 0))) pss_nil)
      (pss_one (ps_ret (pe_callB (call_min2 rfl) (by rfl) T.min (by decide +kernel) (pa_cons (pv 0) (pa_cons (pv 1) pa_nil)))))), ?_⟩
    cases x with
    | none => exact ⟨_, rfl, rfl, _, rfl, ifT rfl ⟨_, rfl, k⟩⟩
    | some i =>
      refine ⟨_, rfl, rfl, _, rfl, ifF nofun ?_⟩
      cases y with
      | none => exact ⟨_, rfl, rfl, _, rfl, ifT rfl ⟨_, rfl, k⟩⟩
      | some j =>
        refine ⟨_, rfl, rfl, _, rfl, ifF nofun ?_⟩
        exact ⟨_, rfl, _, rfl, _, _, rfl, k⟩
theorem scIsSpan : FnScope ["low", "behind"] ["low", "behind"] (defScope sIsSpan) := ⟨rfl, rfl, rfl, by decide +kernel, rfl, by decide +kernel, by decide +kernel⟩
def okSB (lo be : Option Int) : Bool := match lo, be with
  | none, _ => true
  | _, none => true
  | some l, some b => decide (l < b)
theorem okSB_of {lo be : Option Int} (h : okS lo be) : okSB lo be = true := by
  cases lo <;> cases be <;> first | rfl | exact decide_eq_true (h _ _ rfl rfl)
def spIsSpan : Sp := fun vs H Q _ => ∃ x y : Option Int, vs = [oV x, oV y] ∧ Q (.bl (okSB x y)) H
theorem ok_isspan {f : Addr} {fd : FuncData} (F : Fun K "is_span" "is_span" sIsSpan f fd) : FnOk P w K mg base CX0 1 f fd ["low", "behind"] spIsSpan := by
  refine F.ok scIsSpan (fun vs H Q E h => ?_) (fun cdv A outer s H vs Q E hr h => ?_)
  · obtain ⟨x, y, rfl, _⟩ := h
    rfl
  · obtain ⟨x, y, rfl, k⟩ := h
    refine ⟨_, pss_one (ps_ret (pe_or (pe_cmpR op_isN (pv 0) pe_non (nomark _)) (pe_or (pe_cmpR op_isN (pv 1) pe_non (nomark _)) (pe_one (pe_cmpR op_lt (pv 0) (pv 1) (nomark _)))))), ?_⟩
    cases x with
    | none => exact ⟨_, rfl, rfl, _, rfl, ifT rfl k⟩
    | some i =>
      refine ⟨_, rfl, rfl, _, rfl, ifF nofun ?_⟩
      cases y with
      | none => exact ⟨_, rfl, rfl, _, rfl, ifT rfl k⟩
      | some j =>
        refine ⟨_, rfl, rfl, _, rfl, ifF nofun ?_⟩
        exact ⟨_, rfl, _, rfl, _, _, rfl, rfl, k⟩

theorem scMeet : FnScope ["one", "other", "low", "behind"] ["one", "other"] (defScope sMeet) := ⟨rfl, rfl, rfl, by decide +kernel, rfl, by decide +kernel, by decide +kernel⟩
/-- two spans that have a place in common -/
def spMeet (K : PySem.W.Frag) : Sp := fun vs H Q _ => ∃ (a b : Addr) (l1 b1 l2 b2 : Option Int), vs = [.ref a, .ref b] ∧ SqT K H a [oV l1, oV b1] ∧ SqT K H b [oV l2, oV b2] ∧ okS (laterO l1 l2) (earlierO b1 b2) ∧
  ∀ t, H t = none → Q (.ref t) (upd H t (.tup [oV (laterO l1 l2), oV (earlierO b1 b2)]))
theorem ok_meet {f : Addr} {fd : FuncData} (F : Fun K "meet" "meet" sMeet f fd) (c1 : Cal P w K mg base 1 "later" spLater) (c2 : Cal P w K mg base 1 "earlier" spEarlier) (c3 : Cal P w K mg base 1 "is_span" spIsSpan) :
    FnOk P w K mg base CX0 2 f fd ["one", "other"] (spMeet K) := by
  refine F.ok scMeet (fun vs H Q E h => ?_) (fun cdv A outer s H vs Q E hr h => ?_)
  · obtain ⟨a, b, l1, b1, l2, b2, rfl, _⟩ := h
    rfl
  · obtain ⟨a, b, l1, b1, l2, b2, rfl, ha, hb, ok, k⟩ := h
    refine ⟨_, pss_cons (ps_set (i := 2) scMeet.nd rfl (Or.inl rfl) (pcal c1 hr (by decide) rfl (pa_cons (pe_ix ix_tup (pv 0) pe_int (fun _ _ => rfl)) (pa_cons (pe_ix ix_tup (pv 1) pe_int (fun _ _ => rfl)) pa_nil))))
      (pss_cons (ps_set (i := 3) scMeet.nd rfl (Or.inl rfl) (pcal c2 hr (by decide) rfl (pa_cons (pe_ix ix_tup (pv 0) pe_int (fun _ _ => rfl)) (pa_cons (pe_ix ix_tup (pv 1) pe_int (fun _ _ => rfl)) pa_nil))))
      (pss_cons (ps_if (pt_val (pcal c3 hr (by decide) rfl (pa_cons (pv 2) (pa_cons (pv 3) pa_nil)))) (pss_one (ps_ret (pe_tup (pa_cons (pv 2) (pa_cons (pv 3) pa_nil))))) pss_nil)
      (pss_one (ps_ret pe_non)))), ?_⟩
    refine ⟨_, rfl, a, _, _, _, rfl, rfl, ha, at_of (j := 0) rfl rfl, _, rfl, b, _, _, _, rfl, rfl, hb, at_of (j := 0) rfl rfl, l1, l2, rfl, ?_⟩
    refine ⟨_, rfl, a, _, _, _, rfl, rfl, ha, at_of (j := 1) rfl rfl, _, rfl, b, _, _, _, rfl, rfl, hb, at_of (j := 1) rfl rfl, b1, b2, rfl, ?_⟩
    refine ⟨_, rfl, _, rfl, _, _, rfl, _, rfl, ?_⟩
    rw [okSB_of ok]
    refine iteT ⟨_, rfl, _, rfl, (by show 2 ≤ sizeLine; decide), fun t ht => k t ht⟩

theorem scBegun : FnScope ["pieces", "place", "least", "most", "middle", "low"] ["pieces", "place"] (defScope sBegun) := ⟨rfl, rfl, rfl, by decide +kernel, rfl, by decide +kernel, by decide +kernel⟩
def spBegun (K : PySem.W.Frag) : Sp := fun vs H Q _ => ∃ (a : Addr) (p : Int) (xs : List V) (R : List Row), vs = [.ref a, .int p] ∧ SqL K H a xs ∧ RowsX H xs R ∧ WF R ∧ ∀ n, Begun R p n → Q (.int (n : Int)) H
theorem ok_begun {f : Addr} {fd : FuncData} (F : Fun K "begun_by" "begun_by" sBegun f fd) (T : Bi mg) : FnOk P w K mg base CX0 1 f fd ["pieces", "place"] (spBegun K) := by
  refine F.ok scBegun (fun vs H Q E h => ?_) (fun cdv A outer s H vs Q E hr h => ?_)
  · obtain ⟨a, p, xs, R, rfl, _⟩ := h
    rfl
  · obtain ⟨a, p, xs, R, rfl, hS, hR, wf, k⟩ := h
    refine ⟨_, pss_cons (ps_set (i := 2) scBegun.nd rfl (Or.inl rfl) pe_int)
      (pss_cons (ps_set (i := 3) scBegun.nd rfl (Or.inl rfl) (pe_callB call_len_seq (by rfl) T.len PySem.boot_len (pa_cons (pv 0) pa_nil)))
      (pss_cons (ps_while PassesOwn.never (pt_cmpR op_lt (pv 2) (pv 3) (nomark _))
        (pss_cons (ps_set (i := 4) scBegun.nd rfl (Or.inl rfl) (pe_op op_fdiv (pe_op op_add (pv 2) (pv 3)) pe_int))
        (pss_cons (ps_set (i := 5) scBegun.nd rfl (Or.inl rfl) (pe_ix ix_tup (pe_ix ix_list (pv 0) (pv 4) (fun _ _ => rfl)) pe_int (fun _ _ => rfl)))
        (pss_one (ps_if (PW.pt (pw_or (pt_cmpR op_isN (pv 5) pe_non (nomark _)) (pw_or1 (pt_cmpR op_le (pv 5) (pv 1) (nomark _)))))
          (pss_one (ps_set (i := 2) scBegun.nd rfl (Or.inl rfl) (pe_op op_add (pv 4) pe_int)))
          (pss_one (ps_set (i := 3) scBegun.nd rfl (Or.inl rfl) (pv 4))))))))
      (pss_one (ps_ret (pv 2))))), ?_⟩
    refine ⟨_, rfl, a, xs, rfl, .inl hS, ?_⟩
    refine ⟨fun m σ H' => ∃ (lo hi : Nat) (y z : Option V), σ = [some (.ref a), some (.int p), some (.int (lo : Int)), some (.int (hi : Int)), y, z] ∧ H = H' ∧ m = hi - lo ∧ lo ≤ hi ∧ hi ≤ R.length ∧
      (∀ (i : Nat) r, R[i]? = some r → i < lo → loLe r.lo p) ∧ (∀ (i : Nat) r, R[i]? = some r → hi ≤ i → ¬ loLe r.lo p), ⟨R.length, 0, R.length, none, none, ?_, rfl, rfl, Nat.zero_le _, Nat.le_refl _, (fun i r _ z => absurd z (Nat.not_lt_zero _)), fun i r e z => ?_⟩, fun m σ H' hW => ?_⟩
    · rw [hR.len]; rfl
    · exact absurd (List.getElem?_eq_some_iff.mp e).1 (by omega)
    · obtain ⟨lo, hi, y, z, rfl, rfl, rfl, hle, hhi, h1, h2⟩ := hW
      refine ⟨_, rfl, _, rfl, _, _, rfl, rfl, _, rfl, ?_⟩
      by_cases c : lo < hi
      · refine ifT (by omega) ?_
        obtain ⟨mid, em⟩ : ∃ mid : Nat, ((lo : Int) + (hi : Int)) / 2 = (mid : Int) := ⟨(lo + hi) / 2, by omega⟩
        have hm1 : lo ≤ mid := by omega
        have hm2 : mid < hi := by omega
        obtain ⟨r, hr'⟩ : ∃ r, R[mid]? = some r := ⟨_, List.getElem?_eq_getElem (by omega)⟩
        obtain ⟨x, hx, t, rfl, ht⟩ := hR.getR hr'
        refine ⟨fun σ' H' => ∃ (lo' hi' : Nat) (y z : Option V), σ' = [some (.ref a), some (.int p), some (.int (lo' : Int)), some (.int (hi' : Int)), y, z] ∧ H = H' ∧ hi' - lo' < hi - lo ∧ lo' ≤ hi' ∧ hi' ≤ R.length ∧
          (∀ (i : Nat) r, R[i]? = some r → i < lo' → loLe r.lo p) ∧ (∀ (i : Nat) r, R[i]? = some r → hi' ≤ i → ¬ loLe r.lo p), ?_, ?_⟩
        · rintro σ' H' ⟨lo', hi', y, z, e1, e2, e3, e4⟩
          exact ⟨_, e3, lo', hi', y, z, e1, e2, rfl, e4⟩
        · refine ⟨_, rfl, _, rfl, _, _, rfl, rfl, _, _, rfl, rfl, ⟨by decide, by decide⟩, ?_⟩
          refine ⟨_, rfl, _, rfl, a, xs, _, _, rfl, rfl, hS, at_of em hx, t, _, _, _, rfl, rfl, SqT.of ht, at_of (j := 0) rfl rfl, ?_⟩
          by_cases q : loLe r.lo p
          · have up : ∀ (i : Nat) r', R[i]? = some r' → i < mid + 1 → loLe r'.lo p := fun i r' e hi' => lo_down wf e hr' (by omega) q
            have fin : ∀ z0 : Int, z0 = (mid : Int) → ∀ y z : Option V, ∃ (lo' hi' : Nat) (y' z' : Option V), [some (V.ref a), some (.int p), some (.int (z0 + 1)), some (.int (hi : Int)), y, z] = [some (.ref a), some (.int p), some (.int (lo' : Int)), some (.int (hi' : Int)), y', z'] ∧ H = H ∧ hi' - lo' < hi - lo ∧ lo' ≤ hi' ∧ hi' ≤ R.length ∧
                (∀ (i : Nat) r, R[i]? = some r → i < lo' → loLe r.lo p) ∧ (∀ (i : Nat) r, R[i]? = some r → hi' ≤ i → ¬ loLe r.lo p) := by
              rintro _ rfl y z
              exact ⟨mid + 1, hi, y, z, rfl, rfl, by omega, by omega, hhi, up, h2⟩
            cases el : r.lo with
            | none => exact ⟨_, rfl, rfl, _, rfl, ifT rfl (iteT ⟨_, rfl, _, _, rfl, rfl, fin _ em _ _⟩)⟩
            | some l => exact ⟨_, rfl, rfl, _, rfl, ifF nofun ⟨_, rfl, _, rfl, _, _, rfl, rfl, _, rfl, ifT (q l el) ⟨_, rfl, _, _, rfl, rfl, fin _ em _ _⟩⟩⟩
          · have dn : ∀ (i : Nat) r', R[i]? = some r' → mid ≤ i → ¬ loLe r'.lo p := fun i r' e hi' z => q (lo_down wf hr' e hi' z)
            have fin : ∀ z0 : Int, z0 = (mid : Int) → ∀ y z : Option V, ∃ (lo' hi' : Nat) (y' z' : Option V), [some (V.ref a), some (.int p), some (.int (lo : Int)), some (.int z0), y, z] = [some (.ref a), some (.int p), some (.int (lo' : Int)), some (.int (hi' : Int)), y', z'] ∧ H = H ∧ hi' - lo' < hi - lo ∧ lo' ≤ hi' ∧ hi' ≤ R.length ∧
                (∀ (i : Nat) r, R[i]? = some r → i < lo' → loLe r.lo p) ∧ (∀ (i : Nat) r, R[i]? = some r → hi' ≤ i → ¬ loLe r.lo p) := by
              rintro _ rfl y z
              exact ⟨lo, mid, y, z, rfl, rfl, by omega, by omega, by omega, h1, dn⟩
            cases el : r.lo with
            | none => exact absurd (fun l e => by rw [el] at e; cases e) q
            | some l =>
              exact ⟨_, rfl, rfl, _, rfl, ifF nofun ⟨_, rfl, _, rfl, _, _, rfl, rfl, _, rfl, ifF (fun z => q fun l' e => by rw [el] at e; cases e; exact z) ⟨_, rfl, fin _ em _ _⟩⟩⟩
      · refine ifF (by omega) ⟨_, rfl, k lo ⟨by omega, h1, fun i r e hi' => h2 i r e (by omega)⟩⟩
theorem scValue : FnScope ["pieces", "place", "many", "behind"] ["pieces", "place"] (defScope sValue) := ⟨rfl, rfl, rfl, by decide +kernel, rfl, by decide +kernel, by decide +kernel⟩
def spValue (K : PySem.W.Frag) : Sp := fun vs H Q _ => ∃ (a : Addr) (p : Int) (xs : List V) (R : List Row), vs = [.ref a, .int p] ∧ SqL K H a xs ∧ RowsX H xs R ∧ WF R ∧ Q (nV (tell R p)) H
theorem ok_value {f : Addr} {fd : FuncData} (F : Fun K "value_at" "value_at" sValue f fd) (c1 : Cal P w K mg base 1 "begun_by" (spBegun K)) : FnOk P w K mg base CX0 2 f fd ["pieces", "place"] (spValue K) := by
  refine F.ok scValue (fun vs H Q E h => ?_) (fun cdv A outer s H vs Q E hr h => ?_)
  · obtain ⟨a, p, xs, R, rfl, _⟩ := h
    rfl
  · obtain ⟨a, p, xs, R, rfl, hS, hR, wf, k⟩ := h
    refine ⟨_, pss_cons (ps_set (i := 2) scValue.nd rfl (Or.inl rfl) (pcal c1 hr (by decide) rfl (pa_cons (pv 0) (pa_cons (pv 1) pa_nil))))
      (pss_cons (ps_if (pt_cmpR op_eq (pv 2) pe_int (nomark _)) (pss_one (ps_ret pe_non)) pss_nil)
      (pss_cons (ps_set (i := 3) scValue.nd rfl (Or.inl rfl) (pe_ix ix_tup (pe_ix ix_list (pv 0) (pe_op op_sub (pv 2) pe_int) (fun _ _ => rfl)) pe_int (fun _ _ => rfl)))
      (pss_cons (ps_if (PW.pt (pw_or (pt_cmpR op_isN (pv 3) pe_non (nomark _)) (pw_or1 (pt_cmpR op_lt (pv 1) (pv 3) (nomark _)))))
          (pss_one (ps_ret (pe_ix ix_tup (pe_ix ix_list (pv 0) (pe_op op_sub (pv 2) pe_int) (fun _ _ => rfl)) pe_int (fun _ _ => rfl)))) pss_nil)
      (pss_one (ps_ret pe_non))))), ?_⟩
    refine ⟨_, rfl, _, rfl, a, p, xs, R, rfl, hS, hR, wf, fun n hn => ?_⟩
    refine ⟨_, rfl, rfl, _, rfl, ?_⟩
    cases n with
    | zero =>
      rw [begun_zero hn] at k
      exact ifT rfl k
    | succ n =>
      refine ifF (fun z => by have := V.int.inj z; omega) ?_
      have hle := hn.le
      obtain ⟨r, hr'⟩ : ∃ r, R[n]? = some r := ⟨_, List.getElem?_eq_getElem (by omega)⟩
      obtain ⟨x, hx, t, rfl, ht⟩ := hR.getR hr'
      have ei : ((n + 1 : Nat) : Int) - 1 = (n : Int) := by omega
      refine ⟨_, rfl, _, rfl, _, _, rfl, rfl, a, xs, _, _, rfl, rfl, hS, at_of ei hx, t, _, _, _, rfl, rfl, SqT.of ht, at_of (j := 1) rfl rfl, ?_⟩
      cases eb : r.be with
      | none =>
        rw [begun_in wf hn hr' (fun x e => by rw [eb] at e; cases e)] at k
        exact ⟨_, rfl, rfl, _, rfl, ifT rfl (iteT ⟨_, rfl, _, rfl, _, _, rfl, rfl, a, xs, _, _, rfl, rfl, hS, at_of ei hx, t, _, _, _, rfl, rfl, SqT.of ht, at_of (j := 2) rfl rfl, k⟩)⟩
      | some b =>
        refine ⟨_, rfl, rfl, _, rfl, ifF nofun ⟨_, rfl, _, rfl, _, _, rfl, rfl, _, rfl, ?_⟩⟩
        by_cases c : p < b
        · rw [begun_in wf hn hr' (fun x e => by rw [eb] at e; cases e; exact c)] at k
          exact ifT c ⟨_, rfl, _, rfl, _, _, rfl, rfl, a, xs, _, _, rfl, rfl, hS, at_of ei hx, t, _, _, _, rfl, rfl, SqT.of ht, at_of (j := 2) rfl rfl, k⟩
        · rw [begun_out wf hn hr' eb c] at k
          exact ifF c k
end
end Sm

namespace Sm
open PySem L2
section
variable {P : Program} {w : World} {K : PySem.W.Frag} {mg : Str → Option Value} {base : Heap}
theorem scKnit : FnScope ["rows", "found", "low", "behind", "value"] ["rows"] (defScope sKnit) := ⟨rfl, rfl, rfl, by decide +kernel, rfl, by decide +kernel, by decide +kernel⟩
def spKnit (K : PySem.W.Frag) : Sp := fun vs H Q _ => ∃ (a : Addr) (xs : List V) (R : List Row) (E : List Int), vs = [.ref a] ∧ SqL K H a xs ∧ RowsX H xs R ∧ WF R ∧ EndsIn E R ∧ R.length ≤ 1000 ∧
  ∀ H' p ys F, Same H H' → H p = none → H' p = some (.lst ys) → RowsX H' ys F → Map E F → (∀ q, tell F q = tell R q) → Q (.ref p) H'
theorem ok_knit {f : Addr} {fd : FuncData} (F : Fun K "knit" "knit" sKnit f fd) : FnOk P w K mg base CX0 1 f fd ["rows"] (spKnit K) := by
  refine F.ok scKnit (fun vs H Q E h => ?_) (fun cdv A outer s H vs Q E hr h => ?_)
  · obtain ⟨a, xs, R, E, rfl, _⟩ := h
    rfl
  · obtain ⟨a, xs, R, E, rfl, hS, hR, wf, en, few, k⟩ := h
    refine ⟨_, pss_cons (ps_set (i := 1) scKnit.nd rfl (Or.inl rfl) (pe_lst pa_nil))
      (pss_cons (ps_for PassesOwn.never rfl (pi_list (pv 0)) (pg_tup rfl (pgs_cons (pg_name (i := 2) scKnit.nd rfl (.inl rfl)) (pgs_cons (pg_name (i := 3) scKnit.nd rfl (.inl rfl)) (pgs_cons (pg_name (i := 4) scKnit.nd rfl (.inl rfl)) pgs_nil))))
        (pss_cons (ps_if (pt_cmpR op_isN (pv 4) pe_non (nomark _)) (pss_one ps_continue) pss_nil)
        (pss_one (ps_if (PW.pt (pw_and (pt_cmpR (op_neD hr.units) (pv 1) (pe_lst pa_nil) (nomark _))
              (pw_and (pt_cmpR op_eq (pe_ix ix_tup (pe_ix ix_list (pv 1) (pe_un un_neg pe_int) (fun _ _ => rfl)) pe_int (fun _ _ => rfl)) (pv 2) (nomark _))
              (pw_and1 (pt_cmpR op_eq (pe_ix ix_tup (pe_ix ix_list (pv 1) (pe_un un_neg pe_int) (fun _ _ => rfl)) pe_int (fun _ _ => rfl)) (pv 4) (nomark _))))))
          (pss_one (ps_asg (pe_tup (pa_cons (pe_ix ix_tup (pe_ix ix_list (pv 1) (pe_un un_neg pe_int) (fun _ _ => rfl)) pe_int (fun _ _ => rfl)) (pa_cons (pv 3) (pa_cons (pv 4) pa_nil)))) (pg_sub (pv 1) (pe_un un_neg pe_int) set_list)))
          (pss_one (ps_expr (pe_bm PySem.F.plainAttrs_list PySem.F.slot_list_append PySem.F.type_list_append mt_append (pv 1) (pa_cons (pe_tup (pa_cons (pv 2) (pa_cons (pv 3) (pa_cons (pv 4) pa_nil)))) pa_nil))))))))
      (pss_one (ps_ret (pv 1)))), ?_⟩
    refine ⟨Nat.zero_le _, fun p np => ?_⟩
    refine ⟨_, rfl, a, rfl, ⟨_, (same_upd np).seq hS⟩, for_list (K := K) (a := a) (xs := xs) (fun i σ H' => ∃ (y2 y3 y4 : Option V) (ys : List V) (F : List Row), σ = [some (.ref a), some (.ref p), y2, y3, y4] ∧ Same H H' ∧ H' p = some (.lst ys) ∧ RowsX H' ys F ∧ Kn R E i F)
      ⟨none, none, none, [], [], rfl, same_upd np, upd_same, RowsX.nil, Kn.zero⟩ (fun i σ H' _ ⟨_, _, _, _, _, _, sm, _⟩ => sm.seq hS) ?_ ?_⟩
    · rintro i x σ H' hi ⟨y2, y3, y4, ys, F, rfl, sm, hp, hF, kn⟩
      obtain ⟨r, hr', t, rfl, ht⟩ := hR.get hi
      have ht' := sm _ _ ht
      refine ⟨t, rowV r, rfl, SqT.of ht', rfl, _, _, rfl, _, _, rfl, _, _, rfl, rfl, ?_⟩
      have hlen : F.length ≤ 1000 := by
        have := kn.few
        have := (List.getElem?_eq_some_iff.mp hr').1
        omega
      cases ev : r.v with
      | none =>
        refine ⟨_, rfl, rfl, _, rfl, ifT rfl ?_⟩
        exact ⟨_, _, _, ys, F, rfl, sm, hp, hF, kn.skip wf hr' ev⟩
      | some v =>
        refine ⟨_, rfl, rfl, _, rfl, ifF nofun ?_⟩
        refine ⟨_, rfl, Nat.zero_le _, fun l hl => ?_⟩
        have s2 : Same H' (upd H' l (.lst [])) := same_upd hl
        have hp2 := s2 _ _ hp
        have hF2 : RowsX (upd H' l (.lst [])) ys F := hF.mono fun b zs e => s2 b _ e
        have npl : p ≠ l := ne_of_none hp hl
        -- the way of append
        have fin : ∀ t', (upd H' l (.lst [])) t' = none → ∃ (y2 y3 y4 : Option V) (ys' : List V) (F' : List Row), [some (V.ref a), some (.ref p), some (oV r.lo), some (oV r.be), some (nV (some v))] = [some (.ref a), some (.ref p), y2, y3, y4] ∧
            Same H (upd (upd (upd H' l (.lst [])) t' (.tup [oV r.lo, oV r.be, nV (some v)])) p (.lst (ys ++ [V.ref t']))) ∧ (upd (upd (upd H' l (.lst [])) t' (.tup [oV r.lo, oV r.be, nV (some v)])) p (.lst (ys ++ [V.ref t']))) p = some (.lst ys') ∧
            RowsX (upd (upd (upd H' l (.lst [])) t' (.tup [oV r.lo, oV r.be, nV (some v)])) p (.lst (ys ++ [V.ref t']))) ys' F' ∧ Kn R E (i + 1) F' := fun t' ht' => by
          have s3 : Same (upd H' l (.lst [])) (upd (upd H' l (.lst [])) t' (.tup [oV r.lo, oV r.be, nV (some v)])) := same_upd ht'
          have nt := ntup (s3 _ _ hp2) (fun xs z => by cases z) (.lst (ys ++ [V.ref t']))
          have npt : t' ≠ p := fun z => by rw [z, hp2] at ht'; cases ht'
          refine ⟨_, _, _, _, F ++ [r], rfl, fun b o e => ?_, upd_same, ?_, kn.add wf en hr' ev⟩
          · rw [upd_ne (ne_of_none e np)]
            exact s3 _ _ (s2 _ _ (sm _ _ e))
          · refine ((hF2.mono fun b zs e => s3 b _ e).mono nt).snoc ⟨t', rfl, ?_⟩
            rw [upd_ne npt, upd_same]
            show _ = some (HO.tup [oV r.lo, oV r.be, nV r.v])
            rw [ev]
        have hs2 : ∀ t', (upd H' l (.lst [])) t' = none → (upd (upd H' l (.lst [])) t' (.tup [oV r.lo, oV r.be, nV (some v)])) p = some (.lst ys) := fun t' ht' => same_upd ht' _ _ hp2
        have hz : ys.length < sizeLine := small1000 (by rw [hF.len]; exact hlen)
        refine rNe_nil (hF2.nice (K := K)) (SqL.of hp2) (SqL.of upd_same) ⟨_, rfl, ?_⟩
        rw [hF.emp]
        by_cases hFe : F = []
        · subst hFe
          refine iteF (iteF ?_)
          exact ⟨_, rfl, .inl ⟨rfl, _, .inl (.inl hp2)⟩, _, rfl, _, rfl, _, rfl, (by show 3 ≤ sizeLine; decide), fun t' ht' => ⟨p, ys, _, rfl, rfl, hs2 t' ht', hz, fin t' ht'⟩⟩
        · obtain ⟨F0, q, rfl⟩ := snoc_of hFe
          obtain ⟨ys0, y, rfl⟩ := snoc_of (l := ys) fun z => by have := hF.len; rw [z] at this; simp at this
          obtain ⟨hF0, tq, rfl, hq⟩ := hF2.init
          have emp : ((F0 ++ [q]).isEmpty) = false := by cases F0 <;> rfl
          rw [emp]
          have hat : atI (ys0 ++ [V.ref tq]) (-1) = some (.ref tq) := atI_last _ _
          refine iteT ⟨_, rfl, 1, rfl, p, _, _, _, rfl, rfl, SqL.of hp2, hat, tq, _, _, _, rfl, rfl, SqT.of hq, at_of (j := 1) rfl rfl, _, rfl, scal_oV _ _, _, rfl, ?_⟩
          by_cases c1 : q.be = r.lo
          · rw [dec_oV]
            refine ifT c1 ⟨_, rfl, 1, rfl, p, _, _, _, rfl, rfl, SqL.of hp2, hat, tq, _, _, _, rfl, rfl, SqT.of hq, at_of (j := 2) rfl rfl, _, rfl, scal_nV _ _, _, rfl, ?_⟩
            rw [dec_nV]
            by_cases c2 : q.v = some v
            · refine ifT c2 ?_
              -- found[-1] = (found[-1][0], behind, value)
              refine ⟨_, rfl, 1, rfl, p, _, _, _, rfl, rfl, SqL.of hp2, hat, tq, _, _, _, rfl, rfl, SqT.of hq, at_of (j := 0) rfl rfl, _, rfl, _, rfl, (by show 3 ≤ sizeLine; decide), fun t' ht' => ?_⟩
              have s3 : Same (upd H' l (.lst [])) (upd (upd H' l (.lst [])) t' (.tup [oV q.lo, oV r.be, nV (some v)])) := same_upd ht'
              have npt : t' ≠ p := fun z => by rw [z, hp2] at ht'; cases ht'
              have hp3 := s3 _ _ hp2
              refine ⟨_, rfl, 1, rfl, p, _, _, ys0.length, rfl, rfl, hp3, ?_, ?_⟩
              · rw [List.length_append, List.length_singleton]
                exact ixN_last _
              · rw [set_last]
                refine ⟨_, _, _, _, F0 ++ [⟨q.lo, r.be, some v⟩], rfl, fun b o e => ?_, upd_same, ?_, kn.merge wf en hr' ev c2 c1⟩
                · rw [upd_ne (ne_of_none e np)]
                  exact s3 _ _ (s2 _ _ (sm _ _ e))
                · refine ((hF0.mono fun b zs e => s3 b _ e).mono (ntup hp3 (fun xs z => by cases z) _)).snoc ⟨t', rfl, ?_⟩
                  rw [upd_ne npt, upd_same]
                  rfl
            · refine ifF c2 ?_
              exact ⟨_, rfl, .inl ⟨rfl, _, .inl (.inl hp2)⟩, _, rfl, _, rfl, _, rfl, (by show 3 ≤ sizeLine; decide), fun t' ht' => ⟨p, _, _, rfl, rfl, hs2 t' ht', hz, fin t' ht'⟩⟩
          · rw [dec_oV]
            refine ifF c1 (iteF ?_)
            exact ⟨_, rfl, .inl ⟨rfl, _, .inl (.inl hp2)⟩, _, rfl, _, rfl, _, rfl, (by show 3 ≤ sizeLine; decide), fun t' ht' => ⟨p, _, _, rfl, rfl, hs2 t' ht', hz, fin t' ht'⟩⟩
    · rintro σ H' ⟨y2, y3, y4, ys, F, rfl, sm, hp, hF, kn⟩
      rw [hR.len] at kn
      obtain ⟨m, te⟩ := kn.done
      exact ⟨_, rfl, k H' p ys F sm np hp hF m te⟩
end
end Sm

namespace Sm
open PySem L2
section
variable {P : Program} {w : World} {K : PySem.W.Frag} {mg : Str → Option Value} {base : Heap}
/-- a new tuple is put behind a list -/
structure Put (H : Hp) (p t : Addr) (ys : List V) (r : Row) (H' : Hp) : Prop where
  eq : H' = upd (upd H t (.tup (rowV r))) p (.lst (ys ++ [.ref t]))
theorem put_same {H0 H H' : Hp} {p t : Addr} {ys : List V} {r : Row} (h0 : Same H0 H) (np : H0 p = none) (nt : H t = none) (e : H' = upd (upd H t (.tup (rowV r))) p (.lst (ys ++ [.ref t]))) : Same H0 H' := fun b o q => by
  rw [e, upd_ne (ne_of_none q np)]
  exact same_upd nt _ _ (h0 _ _ q)
theorem put_rows {H H' : Hp} {p t : Addr} {ys : List V} {R : List Row} {r : Row} (hp : H p = some (.lst ys)) (nt : H t = none) (hR : RowsX H ys R) (e : H' = upd (upd H t (.tup (rowV r))) p (.lst (ys ++ [.ref t]))) : RowsX H' (ys ++ [.ref t]) (R ++ [r]) := by
  have s1 : Same H (upd H t (.tup (rowV r))) := same_upd nt
  have npt : t ≠ p := fun z => by rw [z, hp] at nt; cases nt
  subst e
  refine ((hR.mono fun b zs q => s1 b _ q).mono (ntup (s1 _ _ hp) (fun xs z => by cases z) _)).snoc ⟨t, rfl, ?_⟩
  rw [upd_ne npt, upd_same]
theorem scWhole : FnScope ["pieces", "rows", "at", "low", "behind", "value"] ["pieces"] (defScope sWhole) := ⟨rfl, rfl, rfl, by decide +kernel, rfl, by decide +kernel, by decide +kernel⟩
def spWhole (K : PySem.W.Frag) : Sp := fun vs H Q _ => ∃ (a : Addr) (xs : List V) (R : List Row), vs = [.ref a] ∧ SqL K H a xs ∧ RowsX H xs R ∧ WF R ∧ R.length ≤ 400 ∧
  ∀ H' p ys W, Same H H' → H p = none → H' p = some (.lst ys) → RowsX H' ys W → Whole R W → Q (.ref p) H'
theorem ok_whole {f : Addr} {fd : FuncData} (F : Fun K "whole" "whole" sWhole f fd) : FnOk P w K mg base CX0 1 f fd ["pieces"] (spWhole K) := by
  refine F.ok scWhole (fun vs H Q E h => ?_) (fun cdv A outer s H vs Q E hr h => ?_)
  · obtain ⟨a, xs, R, rfl, _⟩ := h
    rfl
  · obtain ⟨a, xs, R, rfl, hS, hR, wf, few, k⟩ := h
    refine ⟨_, pss_cons (ps_set (i := 1) scWhole.nd rfl (Or.inl rfl) (pe_lst pa_nil))
      (pss_cons (ps_set (i := 2) scWhole.nd rfl (Or.inl rfl) pe_non)
      (pss_cons (ps_for PassesOwn.never rfl (pi_list (pv 0)) (pg_tup rfl (pgs_cons (pg_name (i := 3) scWhole.nd rfl (.inl rfl)) (pgs_cons (pg_name (i := 4) scWhole.nd rfl (.inl rfl)) (pgs_cons (pg_name (i := 5) scWhole.nd rfl (.inl rfl)) pgs_nil))))
        (C8.pss_cut (ps_if (PW.pt (pw_and (pt_cmpR op_notN (pv 3) pe_non (nomark _)) (pw_and1 (PW.pt (pw_or (pt_cmpR (op_eqD hr.units) (pv 1) (pe_lst pa_nil) (nomark _)) (pw_or1 (pt_cmpR op_lt (pv 2) (pv 3) (nomark _))))))))
            (pss_one (ps_expr (pe_bm PySem.F.plainAttrs_list PySem.F.slot_list_append PySem.F.type_list_append mt_append (pv 1) (pa_cons (pe_tup (pa_cons (pv 2) (pa_cons (pv 3) (pa_cons pe_non pa_nil)))) pa_nil)))) pss_nil)
        (pss_cons (ps_expr (pe_bm PySem.F.plainAttrs_list PySem.F.slot_list_append PySem.F.type_list_append mt_append (pv 1) (pa_cons (pe_tup (pa_cons (pv 3) (pa_cons (pv 4) (pa_cons (pv 5) pa_nil)))) pa_nil)))
        (pss_one (ps_set (i := 2) scWhole.nd rfl (Or.inl rfl) (pv 4))))))
      (C8.pss_cut (ps_if (PW.pt (pw_or (pt_cmpR (op_eqD hr.units) (pv 1) (pe_lst pa_nil) (nomark _)) (pw_or1 (pt_cmpR op_notN (pv 2) pe_non (nomark _)))))
            (pss_one (ps_expr (pe_bm PySem.F.plainAttrs_list PySem.F.slot_list_append PySem.F.type_list_append mt_append (pv 1) (pa_cons (pe_tup (pa_cons (pv 2) (pa_cons pe_non (pa_cons pe_non pa_nil)))) pa_nil)))) pss_nil)
      (pss_one (ps_ret (pv 1)))))), ?_⟩
    refine ⟨Nat.zero_le _, fun p np => ?_⟩
    refine ⟨_, rfl, a, rfl, ⟨_, (same_upd np).seq hS⟩, for_list (K := K) (a := a) (xs := xs) (fun i σ H' => ∃ (y3 y4 y5 : Option V) (at_ : Option Int) (ys : List V) (Z : List Row), σ = [some (.ref a), some (.ref p), some (oV at_), y3, y4, y5] ∧ Same H H' ∧ H' p = some (.lst ys) ∧ RowsX H' ys Z ∧ Wh R i Z at_)
      ⟨none, none, none, none, [], [], rfl, same_upd np, upd_same, RowsX.nil, Wh.zero R⟩ (fun i σ H' _ ⟨_, _, _, _, _, _, _, sm, _⟩ => sm.seq hS) ?_ ?_⟩
    · rintro i x σ H' hi ⟨y3, y4, y5, at_, ys, Z, rfl, sm, hp, hZ, wh⟩
      obtain ⟨r, hr', t, rfl, ht⟩ := hR.get hi
      have ht' := sm _ _ ht
      refine ⟨t, rowV r, rfl, SqT.of ht', rfl, _, _, rfl, _, _, rfl, _, _, rfl, rfl, ?_⟩
      have hiR : i < R.length := (List.getElem?_eq_some_iff.mp hr').1
      have hlen : Z.length ≤ 2 * i := wh.few
      -- behind the if: rows that want the piece alone
      refine ⟨fun σ2 H2 => σ2 = [some (.ref a), some (.ref p), some (oV at_), some (oV r.lo), some (oV r.be), some (nV r.v)] ∧ Same H H2 ∧ ∃ (zs : List V) (Z2 : List Row), H2 p = some (.lst zs) ∧ RowsX H2 zs Z2 ∧ Z2.length ≤ 2 * i + 1 ∧ Wh R (i + 1) (Z2 ++ [r]) r.be, ?_, ?_⟩
      · obtain ⟨lo, be, v⟩ := r
        cases lo with
        | none =>
          refine ⟨_, rfl, rfl, _, rfl, ifNF rfl (iteF ?_)⟩
          refine ⟨rfl, sm, ys, Z, hp, hZ, by omega, wh.put wf hr' (fun _ => rfl) fun hZe => ?_⟩
          obtain ⟨_, _, _, e, _⟩ := wh.at_ wf hZe hr'
          cases e
        | some l =>
          refine ⟨_, rfl, rfl, _, rfl, ifNT nofun ?_⟩
          refine ⟨_, rfl, Nat.zero_le _, fun m hm => ?_⟩
          have s2 : Same H' (upd H' m (.lst [])) := same_upd hm
          have hp2 := s2 _ _ hp
          have hZ2 : RowsX (upd H' m (.lst [])) ys Z := hZ.mono fun b zs e => s2 b _ e
          have hz : ys.length < sizeLine := small1000 (by rw [hZ.len]; omega)
          -- the way of the gap
          have fin : (∀ x, Z ≠ [] → at_ = some x → x < l) → ∀ t', (upd H' m (.lst [])) t' = none → ∀ H3, H3 = upd (upd (upd H' m (.lst [])) t' (.tup (rowV ⟨at_, some l, none⟩))) p (.lst (ys ++ [.ref t'])) →
              Same H H3 ∧ ∃ (zs : List V) (Z2 : List Row), H3 p = some (.lst zs) ∧ RowsX H3 zs Z2 ∧ Z2.length ≤ 2 * i + 1 ∧ Wh R (i + 1) (Z2 ++ [⟨some l, be, v⟩]) be := fun c t' nt H3 e3 => by
            refine ⟨put_same (sm.trans s2) np nt e3, _, Z ++ [⟨at_, some l, none⟩], ?_, put_rows hp2 nt hZ2 e3, by simp; omega, ?_⟩
            · rw [e3]; exact upd_same
            · have := wh.gap wf hr' c
              rw [List.append_assoc]; exact this
          refine rEq_nil (hZ2.nice (K := K)) (SqL.of hp2) (SqL.of upd_same) ⟨_, rfl, ?_⟩
          rw [hZ.emp]
          by_cases hZe : Z = []
          · rw [hZe]
            refine iteT (iteT ?_)
            exact ⟨_, rfl, .inl ⟨rfl, _, .inl (.inl hp2)⟩, _, rfl, _, rfl, (by show 3 ≤ sizeLine; decide), fun t' nt => ⟨p, ys, _, rfl, rfl, same_upd nt _ _ hp2, hz, rfl, fin (fun x z => absurd hZe z) t' nt _ rfl⟩⟩
          · obtain ⟨x, l', e1, e2, hle⟩ := wh.at_ wf hZe hr'
            cases e2
            subst e1
            have emp : Z.isEmpty = false := by cases Z with | nil => exact absurd rfl hZe | cons _ _ => rfl
            rw [emp]
            refine iteF ⟨_, rfl, _, rfl, _, _, rfl, rfl, _, rfl, ?_⟩
            by_cases c : x < l
            · refine ifT c ?_
              exact ⟨_, rfl, .inl ⟨rfl, _, .inl (.inl hp2)⟩, _, rfl, _, rfl, (by show 3 ≤ sizeLine; decide), fun t' nt => ⟨p, ys, _, rfl, rfl, same_upd nt _ _ hp2, hz, rfl, fin (fun y _ e => by cases e; exact c) t' nt _ rfl⟩⟩
            · refine ifF c ?_
              exact ⟨rfl, sm.trans s2, ys, Z, hp2, hZ2, by omega, wh.put wf hr' (fun z => absurd z hZe) fun _ => by show some l = some x; congr 1; omega⟩
      · rintro σ2 H2 ⟨rfl, sm2, zs, Z2, hp2, hZ2, hl2, wh2⟩
        have hz : zs.length < sizeLine := small1000 (by rw [hZ2.len]; omega)
        refine ⟨_, rfl, .inl ⟨rfl, _, .inl (.inl hp2)⟩, _, rfl, _, rfl, _, rfl, (by show 3 ≤ sizeLine; decide), fun t' nt => ⟨p, zs, _, rfl, rfl, same_upd nt _ _ hp2, hz, _, rfl, ?_⟩⟩
        exact ⟨_, _, _, r.be, _, Z2 ++ [r], rfl, put_same sm2 np nt rfl, upd_same, put_rows hp2 nt hZ2 rfl, wh2⟩
    · rintro σ H' ⟨y3, y4, y5, at_, ys, Z, rfl, sm, hp, hZ, wh⟩
      rw [hR.len] at wh
      have hlen : Z.length ≤ 2 * R.length := wh.few
      refine ⟨fun σ2 H2 => (∃ y2 y3 y4 y5, σ2 = [some (.ref a), some (.ref p), y2, y3, y4, y5]) ∧ Same H H2 ∧ ∃ (zs : List V) (Z2 : List Row), H2 p = some (.lst zs) ∧ RowsX H2 zs Z2 ∧ Whole R Z2, ?_, ?_⟩
      · refine ⟨_, rfl, Nat.zero_le _, fun m hm => ?_⟩
        have s2 : Same H' (upd H' m (.lst [])) := same_upd hm
        have hp2 := s2 _ _ hp
        have hZ2 : RowsX (upd H' m (.lst [])) ys Z := hZ.mono fun b zs e => s2 b _ e
        have hz : ys.length < sizeLine := small1000 (by rw [hZ.len]; omega)
        have fin : (Z = [] ∨ at_ ≠ none) → ∀ t', (upd H' m (.lst [])) t' = none → ∀ H3, H3 = upd (upd (upd H' m (.lst [])) t' (.tup (rowV ⟨at_, none, none⟩))) p (.lst (ys ++ [.ref t'])) →
            Same H H3 ∧ ∃ (zs : List V) (Z2 : List Row), H3 p = some (.lst zs) ∧ RowsX H3 zs Z2 ∧ Whole R Z2 := fun c t' nt H3 e3 => by
          refine ⟨put_same (sm.trans s2) np nt e3, _, Z ++ [⟨at_, none, none⟩], ?_, put_rows hp2 nt hZ2 e3, wh.close c⟩
          rw [e3]; exact upd_same
        refine rEq_nil (hZ2.nice (K := K)) (SqL.of hp2) (SqL.of upd_same) ⟨_, rfl, ?_⟩
        rw [hZ.emp]
        by_cases hZe : Z = []
        · rw [hZe]
          refine iteT (iteT ?_)
          exact ⟨_, rfl, .inl ⟨rfl, _, .inl (.inl hp2)⟩, _, rfl, (by show 3 ≤ sizeLine; decide), fun t' nt => ⟨p, ys, _, rfl, rfl, same_upd nt _ _ hp2, hz, ⟨_, _, _, _, rfl⟩, fin (.inl hZe) t' nt _ rfl⟩⟩
        · have emp : Z.isEmpty = false := by cases Z with | nil => exact absurd rfl hZe | cons _ _ => rfl
          rw [emp]
          refine iteF ⟨_, rfl, rfl, _, rfl, ?_⟩
          cases at_ with
          | none => exact ifNF rfl ⟨⟨_, _, _, _, rfl⟩, sm.trans s2, ys, Z, hp2, hZ2, wh.done hZe⟩
          | some x =>
            refine ifNT nofun ?_
            exact ⟨_, rfl, .inl ⟨rfl, _, .inl (.inl hp2)⟩, _, rfl, (by show 3 ≤ sizeLine; decide), fun t' nt => ⟨p, ys, _, rfl, rfl, same_upd nt _ _ hp2, hz, ⟨_, _, _, _, rfl⟩, fin (.inr nofun) t' nt _ rfl⟩⟩
      · rintro σ2 H2 ⟨⟨y2, y3, y4, y5, rfl⟩, sm2, zs, Z2, hp2, hZ2, wh2⟩
        exact ⟨_, rfl, k H2 p zs Z2 sm2 np hp2 hZ2 wh2⟩
end
end Sm

namespace Sm
open PySem L2
section
variable {P : Program} {w : World} {K : PySem.W.Frag} {mg : Str → Option Value} {base : Heap}
def spWay (g : Option Nat → Option Nat → Option Nat) : Sp := fun vs H Q _ => ∃ x y : Option Nat, vs = [nV x, nV y] ∧ Q (nV (g x y)) H
theorem scJoined : FnScope ["one", "other", "way", "ones", "others", "rows", "here", "there", "low", "one_behind", "one_value", "other_low", "other_behind", "other_value", "part"] ["one", "other", "way"] (defScope sJoined) := ⟨rfl, rfl, rfl, by decide +kernel, rfl, by decide +kernel, by decide +kernel⟩
def spJoined (K : PySem.W.Frag) (fW : Addr) (g : Option Nat → Option Nat → Option Nat) : Sp := fun vs H Q _ => ∃ (a b : Addr) (xs zs : List V) (R S : List Row) (E : List Int), vs = [.ref a, .ref b, .ref fW] ∧ SqL K H a xs ∧ RowsX H xs R ∧ Map E R ∧ R.length ≤ 300 ∧
  SqL K H b zs ∧ RowsX H zs S ∧ Map E S ∧ S.length ≤ 10 ∧
  ∀ H' p ys F, Same H H' → H p = none → H' p = some (.lst ys) → RowsX H' ys F → Map E F → (∀ q, tell F q = g (tell R q) (tell S q)) → Q (.ref p) H'
theorem ok_joined {f fW : Addr} {fd fdW : FuncData} {psW : List Str} {g : Option Nat → Option Nat → Option Nat} (F : Fun K "joined" "joined" sJoined f fd) (T : Bi mg) (cW : Cal P w K mg base 1 "whole" (spWhole K)) (cM : Cal P w K mg base 2 "meet" (spMeet K)) (cK : Cal P w K mg base 1 "knit" (spKnit K))
    (GW : FnOk P w K mg base CX0 1 fW fdW psW (spWay g)) (kW : PySem.W.keepIn K (.ref fW) = true) (bW : Binds K fdW psW []) : FnOk P w K mg base CX0 3 f fd ["one", "other", "way"] (spJoined K fW g) := by
  refine F.ok scJoined (fun vs H Q E h => ?_) (fun cdv A outer s H vs Q E hr h => ?_)
  · obtain ⟨a, b, xs, zs, R, S, E, rfl, _⟩ := h
    rfl
  · obtain ⟨a, b, xs, zs, R, S, E, rfl, hS, hR, mR, fR, hT, hZ, mS, fS, k⟩ := h
    have hr1 : Room 1 _ := hr.mono (by decide)
    refine ⟨_, pss_cons (ps_set (i := 3) scJoined.nd rfl (Or.inl rfl) (pcal cW hr (by decide) rfl (pa_cons (pv 0) pa_nil)))
      (pss_cons (ps_set (i := 4) scJoined.nd rfl (Or.inl rfl) (pcal cW hr (by decide) rfl (pa_cons (pv 1) pa_nil)))
      (pss_cons (ps_set (i := 5) scJoined.nd rfl (Or.inl rfl) (pe_lst pa_nil))
      (pss_cons (ps_set (i := 6) scJoined.nd rfl (Or.inl rfl) pe_int)
      (pss_cons (ps_set (i := 7) scJoined.nd rfl (Or.inl rfl) pe_int)
      (pss_cons (ps_while PassesOwn.never (PW.pt (pw_and (pt_cmpR op_lt (pv 6) (pe_callB call_len_seq (by rfl) T.len PySem.boot_len (pa_cons (pv 3) pa_nil)) (nomark _)) (pw_and1 (pt_cmpR op_lt (pv 7) (pe_callB call_len_seq (by rfl) T.len PySem.boot_len (pa_cons (pv 4) pa_nil)) (nomark _)))))
        (pss_cons (ps_asg (pe_ix ix_list (pv 3) (pv 6) (fun _ _ => rfl)) (pg_tup rfl (pgs_cons (pg_name (i := 8) scJoined.nd rfl (.inl rfl)) (pgs_cons (pg_name (i := 9) scJoined.nd rfl (.inl rfl)) (pgs_cons (pg_name (i := 10) scJoined.nd rfl (.inl rfl)) pgs_nil)))))
        (pss_cons (ps_asg (pe_ix ix_list (pv 4) (pv 7) (fun _ _ => rfl)) (pg_tup rfl (pgs_cons (pg_name (i := 11) scJoined.nd rfl (.inl rfl)) (pgs_cons (pg_name (i := 12) scJoined.nd rfl (.inl rfl)) (pgs_cons (pg_name (i := 13) scJoined.nd rfl (.inl rfl)) pgs_nil)))))
        (pss_cons (ps_set (i := 14) scJoined.nd rfl (Or.inl rfl) (pcal cM hr (by decide) rfl (pa_cons (pe_tup (pa_cons (pv 8) (pa_cons (pv 9) pa_nil))) (pa_cons (pe_tup (pa_cons (pv 11) (pa_cons (pv 12) pa_nil))) pa_nil))))
        (pss_cons (ps_expr (pe_bm PySem.F.plainAttrs_list PySem.F.slot_list_append PySem.F.type_list_append mt_append (pv 5) (pa_cons (pe_tup (pa_cons (pe_ix ix_tup (pv 14) pe_int (fun _ _ => rfl)) (pa_cons (pe_ix ix_tup (pv 14) pe_int (fun _ _ => rfl))
            (pa_cons (pe_callL (i := 2) GW hr1 rfl (.inl rfl) kW bW .nil pass0 (pa_cons (pv 10) (pa_cons (pv 13) pa_nil))) pa_nil)))) pa_nil)))
        (C8.pss_cut (ps_if (pt_cmpR op_eq (pv 9) (pe_ix ix_tup (pv 14) pe_int (fun _ _ => rfl)) (nomark _)) (pss_one (ps_aug (i := 6) scJoined.nd rfl (.inl rfl) pe_int ip_add)) pss_nil)
        (pss_one (ps_if (pt_cmpR op_eq (pv 12) (pe_ix ix_tup (pv 14) pe_int (fun _ _ => rfl)) (nomark _)) (pss_one (ps_aug (i := 7) scJoined.nd rfl (.inl rfl) pe_int ip_add)) pss_nil))))))))
      (pss_one (ps_ret (pcal cK hr (by decide) rfl (pa_cons (pv 5) pa_nil))))))))), ?_⟩
    refine ⟨_, rfl, a, xs, R, rfl, hS, hR, mR.wf, by omega, fun H1 pa ya A' s1 na ha hA wA => ?_⟩
    refine ⟨_, rfl, b, zs, S, rfl, s1.seq hT, hZ.mono fun b zs e => s1 b _ e, mS.wf, by omega, fun H2 pb yb B' s2 nb hb hB wB => ?_⟩
    have ha2 := s2 _ _ ha
    have hA2 : RowsX H2 ya A' := hA.mono fun b zs e => s2 b _ e
    have eA := wA.en E mR.en
    have eB := wB.en E mS.en
    have lA := wA.few
    have lB := wB.few
    refine ⟨Nat.zero_le _, fun p np => ?_⟩
    have npH : H p = none := s1.free (s2.free np)
    refine ⟨fun m σ H' => ∃ (i j : Nat) (Z : List Row) (ys : List V) (y8 y9 y10 y11 y12 y13 y14 : Option V), σ = [some (.ref a), some (.ref b), some (.ref fW), some (.ref pa), some (.ref pb), some (.ref p), some (.int (i : Int)), some (.int (j : Int)), y8, y9, y10, y11, y12, y13, y14] ∧
      Same H2 H' ∧ H' p = some (.lst ys) ∧ RowsX H' ys Z ∧ Jn A' B' g E i j Z ∧ i ≤ A'.length ∧ j ≤ B'.length ∧ m = (A'.length - i) + (B'.length - j),
      ⟨_, 0, 0, [], [], none, none, none, none, none, none, none, rfl, same_upd np, upd_same, RowsX.nil, Jn.zero, Nat.zero_le _, Nat.zero_le _, rfl⟩, fun m σ H' hW => ?_⟩
    obtain ⟨i, j, Z, ys, y8, y9, y10, y11, y12, y13, y14, rfl, sm, hp, hZ', jn, li, lj, rfl⟩ := hW
    have hA' : RowsX H' ya A' := hA2.mono fun b zs e => sm b _ e
    have hB' : RowsX H' yb B' := hB.mono fun b zs e => sm b _ e
    have hla : H' pa = some (.lst ya) := sm _ _ ha2
    have hlb : H' pb = some (.lst yb) := sm _ _ hb
    have fin : ¬ (i < A'.length ∧ j < B'.length) → ∃ (a' : Addr) (xs : List V) (R0 : List Row) (E0 : List Int), [V.ref p] = [.ref a'] ∧ SqL K H' a' xs ∧ RowsX H' xs R0 ∧ WF R0 ∧ EndsIn E0 R0 ∧ R0.length ≤ 1000 ∧
        ∀ H'' p' ys' F', Same H' H'' → H' p' = none → H'' p' = some (.lst ys') → RowsX H'' ys' F' → Map E0 F' → (∀ q, tell F' q = tell R0 q) → Q (.ref p') H'' := fun c => by
      have jt := jn.end_ wA.cov wB.cov c
      refine ⟨p, ys, Z, E, rfl, SqL.of hp, hZ', jt.cov.con.wf, jt.en, by have := jt.few; omega, fun H3 p3 y3 F3 s3 n3 h3 hF3 m3 t3 => ?_⟩
      refine k H3 p3 y3 F3 (fun b o e => s3 _ _ (sm _ _ (s2 _ _ (s1 _ _ e)))) (s1.free (s2.free (sm.free n3))) h3 hF3 m3 fun q => ?_
      rw [t3, jt.te, wA.te, wB.te]
    refine ⟨_, rfl, _, rfl, pa, ya, rfl, .inl (SqL.of hla), _, _, rfl, rfl, _, rfl, ?_⟩
    rw [hA.len]
    by_cases c1 : i < A'.length
    · refine ifT (by omega) ⟨_, rfl, _, rfl, pb, yb, rfl, .inl (SqL.of hlb), _, _, rfl, rfl, _, rfl, ?_⟩
      rw [hB.len]
      by_cases c2 : j < B'.length
      · refine ifT (by omega) ?_
        obtain ⟨r, hr'⟩ : ∃ r, A'[i]? = some r := ⟨_, List.getElem?_eq_getElem c1⟩
        obtain ⟨s, hs'⟩ : ∃ s, B'[j]? = some s := ⟨_, List.getElem?_eq_getElem c2⟩
        obtain ⟨x, hx, t1, rfl, ht1⟩ := hA'.getR hr'
        obtain ⟨y, hy, t2, rfl, ht2⟩ := hB'.getR hs'
        obtain ⟨okm, jn'⟩ := jn.step wA.cov wB.cov eA eB hr' hs'
        refine ⟨fun σ' H'' => ∃ (Z : List Row) (ys : List V) (i' j' : Nat) (y8 y9 y10 y11 y12 y13 y14 : Option V), σ' = [some (.ref a), some (.ref b), some (.ref fW), some (.ref pa), some (.ref pb), some (.ref p), some (.int (i' : Int)), some (.int (j' : Int)), y8, y9, y10, y11, y12, y13, y14] ∧
          i' = (if r.be = earlierO r.be s.be then i + 1 else i) ∧ j' = (if s.be = earlierO r.be s.be then j + 1 else j) ∧
          Same H2 H'' ∧ H'' p = some (.lst ys) ∧ RowsX H'' ys Z ∧ Jn A' B' g E i' j' Z, ?_, ?_⟩
        · rintro σ' H'' ⟨Z', ys', i', j', y8, y9, y10, y11, y12, y13, y14, rfl, ei, ej, q1, q2, q3, q4⟩
          have one : r.be = earlierO r.be s.be ∨ s.be = earlierO r.be s.be := by
            cases q : earlierO r.be s.be with
            | none => exact .inl (earlier_none q).1
            | some x => exact (earlier_some q).2.2
          have b1 : i ≤ i' ∧ i' ≤ i + 1 := by rw [ei]; split <;> omega
          have b2 : j ≤ j' ∧ j' ≤ j + 1 := by rw [ej]; split <;> omega
          have b3 : i' = i + 1 ∨ j' = j + 1 := by
            rcases one with z | z
            · left; rw [ei, if_pos z]
            · right; rw [ej, if_pos z]
          exact ⟨_, by omega, i', j', Z', ys', y8, y9, y10, y11, y12, y13, y14, rfl, q1, q2, q3, q4, by omega, by omega, rfl⟩
        · -- the rows' ends
          refine ⟨_, rfl, _, rfl, pa, ya, _, _, rfl, rfl, SqL.of hla, atI_nat hx, t1, rowV r, rfl, SqT.of ht1, rfl, _, _, rfl, _, _, rfl, _, _, rfl, rfl, ?_⟩
          refine ⟨_, rfl, _, rfl, pb, yb, _, _, rfl, rfl, SqL.of hlb, atI_nat hy, t2, rowV s, rfl, SqT.of ht2, rfl, _, _, rfl, _, _, rfl, _, _, rfl, rfl, ?_⟩
          refine ⟨_, rfl, _, rfl, (by show 2 ≤ sizeLine; decide), fun u1 n1 => ?_⟩
          have S1 : Same H' (upd H' u1 (.tup [oV r.lo, oV r.be])) := same_upd n1
          refine ⟨_, rfl, _, rfl, (by show 2 ≤ sizeLine; decide), fun u2 n2 => ?_⟩
          have S2 : Same (upd H' u1 (.tup [oV r.lo, oV r.be])) (upd (upd H' u1 (.tup [oV r.lo, oV r.be])) u2 (.tup [oV s.lo, oV s.be])) := same_upd n2
          refine ⟨u1, u2, r.lo, r.be, s.lo, s.be, rfl, SqT.of (S2 _ _ upd_same), SqT.of upd_same, okm, fun t nt => ?_⟩
          have S3 := S2.trans (same_upd (o := .tup [oV (laterO r.lo s.lo), oV (earlierO r.be s.be)]) nt)
          have S13 := S1.trans S3
          generalize eH : upd (upd (upd H' u1 (.tup [oV r.lo, oV r.be])) u2 (.tup [oV s.lo, oV s.be])) t (.tup [oV (laterO r.lo s.lo), oV (earlierO r.be s.be)]) = H3 at S13 ⊢
          have ht3 : H3 t = some (.tup [oV (laterO r.lo s.lo), oV (earlierO r.be s.be)]) := by rw [← eH]; exact upd_same
          have hp3 := S13 _ _ hp
          have hZ3 : RowsX H3 ys Z := hZ'.mono fun b zs e => S13 b _ e
          have hz : ys.length < sizeLine := small1000 (by rw [hZ'.len]; have := jn.few; omega)
          refine ⟨_, rfl, .inl ⟨rfl, _, .inl (.inl hp3)⟩, _, rfl, t, _, _, _, rfl, rfl, SqT.of ht3, at_of (j := 0) rfl rfl, _, rfl, t, _, _, _, rfl, rfl, SqT.of ht3, at_of (j := 1) rfl rfl, rfl, _, rfl, _, rfl, r.v, s.v, rfl, (by show 3 ≤ sizeLine; decide), fun t' nt' => ?_⟩
          refine ⟨p, ys, _, rfl, rfl, same_upd nt' _ _ hp3, hz, ?_⟩
          have S4 : Same H2 (upd (upd H3 t' (.tup (rowV ⟨laterO r.lo s.lo, earlierO r.be s.be, g r.v s.v⟩))) p (.lst (ys ++ [.ref t']))) := put_same (sm.trans S13) np nt' rfl
          have R4 := put_rows (r := ⟨laterO r.lo s.lo, earlierO r.be s.be, g r.v s.v⟩) hp3 nt' hZ3 rfl
          have P4 : (upd (upd H3 t' (.tup (rowV ⟨laterO r.lo s.lo, earlierO r.be s.be, g r.v s.v⟩))) p (.lst (ys ++ [.ref t']))) p = some (.lst (ys ++ [.ref t'])) := upd_same
          have T4 : (upd (upd H3 t' (.tup (rowV ⟨laterO r.lo s.lo, earlierO r.be s.be, g r.v s.v⟩))) p (.lst (ys ++ [.ref t']))) t = some (.tup [oV (laterO r.lo s.lo), oV (earlierO r.be s.be)]) := by
            have ntp : t ≠ p := fun z => by rw [z, hp3] at ht3; cases ht3
            rw [upd_ne ntp]
            exact same_upd nt' _ _ ht3
          show ∃ Mid : L2.St → Hp → Prop, _ ∧ _
          refine ⟨fun σ2 H5 => H5 = upd (upd H3 t' (.tup (rowV ⟨laterO r.lo s.lo, earlierO r.be s.be, g r.v s.v⟩))) p (.lst (ys ++ [.ref t'])) ∧ σ2 = [some (.ref a), some (.ref b), some (.ref fW), some (.ref pa), some (.ref pb), some (.ref p), some (.int (((if r.be = earlierO r.be s.be then i + 1 else i : Nat)) : Int)), some (.int (j : Int)), some (oV r.lo), some (oV r.be), some (nV r.v), some (oV s.lo), some (oV s.be), some (nV s.v), some (.ref t)], ?_, ?_⟩
          · refine ⟨_, rfl, _, rfl, t, _, _, _, rfl, rfl, SqT.of T4, at_of (j := 1) rfl rfl, scal_oV _ _, _, rfl, ?_⟩
            rw [dec_oV]
            by_cases c : r.be = earlierO r.be s.be
            · rw [if_pos c]
              exact ifT c ⟨_, rfl, _, _, rfl, rfl, rfl, rfl⟩
            · rw [if_neg c]
              exact ifF c ⟨rfl, rfl⟩
          · rintro σ2 H5 ⟨rfl, rfl⟩
            refine ⟨_, rfl, _, rfl, t, _, _, _, rfl, rfl, SqT.of T4, at_of (j := 1) rfl rfl, scal_oV _ _, _, rfl, ?_⟩
            rw [dec_oV]
            by_cases c : s.be = earlierO r.be s.be
            · refine ifT c ⟨_, rfl, _, _, rfl, rfl, ?_⟩
              rw [if_pos c] at jn'
              exact ⟨_, _, _, j + 1, _, _, _, _, _, _, _, rfl, rfl, (if_pos c).symm, S4, P4, R4, jn'⟩
            · refine ifF c ?_
              rw [if_neg c] at jn'
              exact ⟨_, _, _, j, _, _, _, _, _, _, _, rfl, rfl, (if_neg c).symm, S4, P4, R4, jn'⟩
      · exact ifF (by omega) ⟨_, rfl, fin (fun z => c2 z.2)⟩
    · exact ifF (by omega) (iteF ⟨_, rfl, fin (fun z => c1 z.1)⟩)
end
end Sm

namespace Sm
open PySem L2
theorem xor_and_or (n : Nat) : ∀ a b : Nat, a ≤ n → (a ^^^ b) + (a &&& b) = (a ||| b) := by
  induction n with
  | zero =>
    intro a b h
    have : a = 0 := by omega
    subst this; simp
  | succ n ih =>
    intro a b h
    by_cases h0 : a = 0
    · subst h0; simp
    · have i := ih (a / 2) (b / 2) (by omega)
      rw [← Nat.xor_div_two, ← Nat.and_div_two, ← Nat.or_div_two] at i
      have x1 := @Nat.xor_mod_two_eq_one a b
      have x2 := @Nat.and_mod_two_eq_one a b
      have x3 := @Nat.or_mod_two_eq_one a b
      generalize (a ^^^ b) = X at *
      generalize (a &&& b) = Y at *
      generalize (a ||| b) = Z at *
      have : X % 2 + Y % 2 = Z % 2 := by
        by_cases ha : a % 2 = 1 <;> by_cases hb : b % 2 = 1 <;> simp [ha, hb] at x1 x2 x3 <;> omega
      omega
theorem orN (x y : Nat) : Builtin.bitOr (x : Int) (y : Int) = ((x ||| y : Nat) : Int) := by
  rw [bitOr_nn (Int.natCast_nonneg _) (Int.natCast_nonneg _)]; rfl
theorem andN (x y : Nat) : Builtin.bitAnd (x : Int) (y : Int) = ((x &&& y : Nat) : Int) := by
  rw [PyProof.Rows.bitAnd_pp (Int.natCast_nonneg _) (Int.natCast_nonneg _)]; rfl
theorem xorN (x y : Nat) : Builtin.bitXor (x : Int) (y : Int) = ((x ^^^ y : Nat) : Int) := by
  unfold Builtin.bitXor
  rw [orN, andN, ← xor_and_or x x y (Nat.le_refl _)]
  omega
section
variable {P : Program} {w : World} {K : PySem.W.Frag} {mg : Str → Option Value} {base : Heap}
theorem scWith : FnScope ["one", "other"] ["one", "other"] (defScope sWith) := ⟨rfl, rfl, rfl, by decide +kernel, rfl, by decide +kernel, by decide +kernel⟩
theorem ok_with {f : Addr} {fd : FuncData} (F : Fun K "with_bits" "with_bits" sWith f fd) : FnOk P w K mg base CX0 1 f fd ["one", "other"] (spWay withBits) := by
  refine F.ok scWith (fun vs H Q E h => ?_) (fun cdv A outer s H vs Q E hr h => ?_)
  · obtain ⟨x, y, rfl, _⟩ := h
    rfl
  · obtain ⟨x, y, rfl, k⟩ := h
    refine ⟨_, pss_cons (ps_if (pt_cmpR op_isN (pv 0) pe_non (nomark _)) (pss_one (ps_ret (pv 1))) pss_nil)
      (pss_cons (ps_if (pt_cmpR op_isN (pv 1) pe_non (nomark _)) (pss_one (ps_ret (pv 0))) pss_nil)
      (pss_one (ps_ret (pe_op op_or (pv 0) (pv 1))))), ?_⟩
    cases x with
    | none => exact ⟨_, rfl, rfl, _, rfl, ifT rfl ⟨_, rfl, k⟩⟩
    | some i =>
      refine ⟨_, rfl, rfl, _, rfl, ifF nofun ?_⟩
      cases y with
      | none => exact ⟨_, rfl, rfl, _, rfl, ifT rfl ⟨_, rfl, k⟩⟩
      | some j =>
        have e : nV (withBits (some i) (some j)) = .int (Builtin.bitOr (i : Int) (j : Int)) := by rw [orN]; rfl
        rw [e] at k
        exact ⟨_, rfl, rfl, _, rfl, ifF nofun ⟨_, rfl, _, rfl, _, _, rfl, rfl, k⟩⟩
theorem scWithout : FnScope ["one", "other"] ["one", "other"] (defScope sWithout) := ⟨rfl, rfl, rfl, by decide +kernel, rfl, by decide +kernel, by decide +kernel⟩
theorem ok_without {f : Addr} {fd : FuncData} (F : Fun K "without_bits" "without_bits" sWithout f fd) : FnOk P w K mg base CX0 1 f fd ["one", "other"] (spWay withoutBits) := by
  refine F.ok scWithout (fun vs H Q E h => ?_) (fun cdv A outer s H vs Q E hr h => ?_)
  · obtain ⟨x, y, rfl, _⟩ := h
    rfl
  · obtain ⟨x, y, rfl, k⟩ := h
    refine ⟨_, pss_cons (ps_if (PW.pt (pw_or (pt_cmpR op_isN (pv 0) pe_non (nomark _)) (pw_or1 (pt_cmpR op_isN (pv 1) pe_non (nomark _))))) (pss_one (ps_ret (pv 0))) pss_nil)
      (pss_cons (ps_if (pt_cmpR op_eq (pe_op op_and (pv 0) (pv 1)) (pv 0) (nomark _)) (pss_one (ps_ret pe_non)) pss_nil)
      (pss_one (ps_ret (pe_op op_xor (pv 0) (pe_op op_and (pv 0) (pv 1)))))), ?_⟩
    cases x with
    | none => exact ⟨_, rfl, rfl, _, rfl, ifT rfl (iteT ⟨_, rfl, k⟩)⟩
    | some i =>
      refine ⟨_, rfl, rfl, _, rfl, ifF nofun ?_⟩
      cases y with
      | none => exact ⟨_, rfl, rfl, _, rfl, ifT rfl ⟨_, rfl, k⟩⟩
      | some j =>
        refine ⟨_, rfl, rfl, _, rfl, ifF nofun ⟨_, rfl, _, rfl, _, _, rfl, rfl, _, rfl, rfl, _, rfl, ?_⟩⟩
        by_cases c : i &&& j = i
        · have e : nV (withoutBits (some i) (some j)) = .non := by show nV (if i &&& j = i then none else some (i ^^^ (i &&& j))) = _; rw [if_pos c]; rfl
          rw [e] at k
          exact ifT (by show V.int (Builtin.bitAnd (i : Int) (j : Int)) = V.int (i : Int); rw [andN, c]) k
        · have e : nV (withoutBits (some i) (some j)) = .int (Builtin.bitXor (i : Int) (Builtin.bitAnd (i : Int) (j : Int))) := by
            show nV (if i &&& j = i then none else some (i ^^^ (i &&& j))) = _
            rw [if_neg c, andN, xorN]; rfl
          rw [e] at k
          refine ifF (fun z => c ?_) ⟨_, rfl, _, rfl, _, rfl, _, _, rfl, rfl, _, _, rfl, rfl, k⟩
          have z : V.int (Builtin.bitAnd (i : Int) (j : Int)) = V.int (i : Int) := z
          rw [andN] at z
          exact Int.ofNat.inj (V.int.inj z)
end
end Sm

namespace Sm
open PySem PySem.Spec PyProof.Rows L2
/-! ### list(reversed(a list)) -/
section
variable {prog : Program} {w : World} {A : Around} {E : Value → Shared → Prop} {s : Shared}
theorem ext_rev {it l S : Addr} {items : Array Value} {c0 : Nat} {res : Value} {R : Result → Shared → Prop} (hh : A.handled = none) (hit : s.heap.IsRevIter it l ((items.size : Int) - 1)) (hl : s.heap.IsList l items) (hne : l ≠ it) (hSi : S ≠ it) (hSl : S ≠ l)
    (hn : items.size ≤ sizeLine) (hS : s.heap.get? S = some { cls := .type "list", data := .seq #[] c0 })
    (hR : ∀ s' acc' c', Moved [S, it] (fun a b => b = a) s s' → s'.heap.get? S = some { cls := .type "list", dict := none, data := .seq acc' c', slots := #[] } →
      ItemsOf (fun i v => items[items.size - 1 - i]? = some v) acc' items.size → R (.ok (.ret res)) s') :
    wpAny (model prog w) A.in1 (Builtin.List.listExtendWith (.ref S) (.ref it) res)
      (fun fin s' => match fin with | .done f => R (.ok f) s' | .again c' => c'.quiet = true ∧ codeAny (model prog w) A c' R s') (fun e s' => R (.error e) s') s := by
  have W := (Walks.listRev (prog := prog) (w := w) (A := A.in1) hh it l hne items).toS
  have hSf : S ∉ [it, l] := by simp only [List.mem_cons, List.not_mem_nil, or_false, not_or]; exact ⟨hSi, hSl⟩
  have hT : s.TypeIs (.ref it) "list_reverseiterator" := hit.typeIs
  have h1 : Builtin.List.listSameRef (.ref S) (.ref it) = false := by simp [Builtin.List.listSameRef, hSi]
  unfold Builtin.List.listExtendWith
  refine wpAny_bind (wpAny_typeOf hT ?_)
  rw [if_neg (by rw [h1]; decide)]
  refine wpAny_bind (wpAny_pyIter_revIter hit ?_)
  refine wpAny_bind (wpAny_holding ?_)
  unfold Builtin.List.listLengthHint
  refine wpAny_bind (wpAny_specialOf hT RT.nolen_lri ?_)
  show wpAny _ A.in1 (specialOf (Value.ref it) (Str.ofString "__length_hint__") >>= _) _ _ _
  refine wpAny_bind (wpAny_specialOf hT RT.hint_lri ?_)
  generalize hid : ("list_reverseiterator.__length_hint__" : String) = id0
  wp_delta
  rw [show splitId id0 = some ("list_reverseiterator", "__length_hint__") from by subst hid; decide +kernel]
  subst hid
  refine wpAny_bind (wpAny_isInstance (b := true) hT (by rw [isSubtype_type]; kernel_rfl) ?_)
  refine wpAny_pure ?_
  rw [if_neg (by decide)]
  have e0 : ((items.size : Nat) : Int) - 1 - ((0 : Nat) : Int) = (items.size : Int) - 1 := by omega
  exact wpAny_pure ⟨plainId_quiet PySem.F.plain_extend_loop _, codeAny_extend_loopS W hn _ hSf _ items.size 0 _ _ _ rfl (Nat.zero_le _) ⟨Nat.zero_le _, by rw [e0]; exact hit, hl⟩ hS (ItemsOf.nil _) fun s' acc' c' hm hS' hacc => hR s' acc' c' hm hS' hacc⟩
theorem init_rev {it l S : Addr} {items : Array Value} {R : Result → Shared → Prop} (hh : A.handled = none) (hit : s.heap.IsRevIter it l ((items.size : Int) - 1)) (hl : s.heap.IsList l items) (hne : l ≠ it) (hSi : S ≠ it) (hSl : S ≠ l)
    (hn : items.size ≤ sizeLine) (hS : s.heap.get? S = some { cls := .type "list", data := .seq #[] })
    (hR : ∀ (h' : Heap) (tk : Nat) acc' c', (∀ b o, b ≠ S → b ≠ it → s.heap.get? b = some o → h'.get? b = some o) → h'.get? S = some { cls := .type "list", dict := none, data := .seq acc' c', slots := #[] } →
      ItemsOf (fun i v => items[items.size - 1 - i]? = some v) acc' items.size → R (.ok (.ret .none)) { s with heap := h', toks := tk }) :
    wpAny (model prog w) A.in1 (Builtin.«list.__init__» ⟨[.ref S, .ref it], []⟩)
      (fun fin s' => match fin with | .done f => R (.ok f) s' | .again c' => c'.quiet = true ∧ codeAny (model prog w) A c' R s') (fun e s' => R (.error e) s') s := by
  show wpAny _ A.in1 (do let old ← Builtin.List.listItems (.ref S); Builtin.List.listUpdate (.ref S) (fun _ => #[]); letGo old.toList.reverse; Builtin.List.listExtendWith (.ref S) (.ref it) .none) _ _ s
  refine wpAny_bind ?_
  unfold Builtin.List.listItems
  refine wpAny_bind (wpAny_seqItems hS rfl (wpAny_pure ?_))
  show wpAny _ A.in1 (updateSeq S (fun _ => #[]) >>= fun _ => letGo (#[] : Array Value).toList.reverse >>= fun _ => Builtin.List.listExtendWith (.ref S) (.ref it) .none) _ _ s
  refine wpAny_bind (wpAny_updateSeq hS rfl ?_)
  have hS2 := Heap.get?_update_self (Obj.mapSeq (fun _ => (#[] : Array Value))) hS rfl
  have oth : ∀ b o, b ≠ S → s.heap.get? b = some o → (s.heap.update S (Obj.mapSeq (fun _ => (#[] : Array Value)))).get? b = some o :=
    fun b o hb e => (Heap.get?_update_other _ _ (Ne.symm hb)).trans e
  refine wpAny_bind (wpAny_letGo ?_)
  refine ext_rev (s := { s with heap := s.heap.update S (Obj.mapSeq (fun _ => (#[] : Array Value))) }) hh (hit.at fun o e => oth it o (Ne.symm hSi) e) ?_ hne hSi hSl hn hS2 fun s' acc' c' hm hS' hacc => ?_
  · obtain ⟨o, ho, hc, n, hd⟩ := hl
    exact ⟨o, oth l o (Ne.symm hSl) ho, hc, n, hd⟩
  · rw [Moved.eq_with hm]
    exact hR s'.heap s'.toks acc' c' (fun b o h1 h2 e => hm.heap b o (by simp only [List.mem_cons, List.not_mem_nil, or_false, not_or]; exact ⟨h1, h2⟩) (oth b o h1 e)) hS' hacc
theorem call_list_rev {it l : Addr} {items : Array Value} {Q : Value → Shared → Prop} (hh : A.handled = none) (hit : s.heap.IsRevIter it l ((items.size : Int) - 1)) (hl : s.heap.IsList l items) (hne : l ≠ it) (hn : items.size ≤ sizeLine)
    (hQ : ∀ (h' : Heap) (tk : Nat) acc' c', (∀ b o, b ≠ it → s.heap.get? b = some o → h'.get? b = some o) → h'.get? s.heap.objs.size = some { cls := .type "list", dict := none, data := .seq acc' c', slots := #[] } →
      ItemsOf (fun i v => items[items.size - 1 - i]? = some v) acc' items.size → Q (.ref s.heap.objs.size) { s with heap := h', toks := tk }) :
    wpAny (model prog w) A (call (.type "list") [.ref it]) Q E s := by
  refine callType_codes (Q₁ := fun obj s₁ => obj = .ref s.heap.objs.size ∧ s₁ = { s with heap := s.heap.push { cls := .type "list", data := .seq #[] } }) PySem.F.called_list (PySem.F.typeCall_list_1 _) PySem.F.entry_list_init
    (code_list_new _ ⟨rfl, rfl⟩) fun obj s₁ h₁ => ?_
  obtain ⟨rfl, rfl⟩ := h₁
  obtain ⟨oi, hoi, _⟩ := id hit
  obtain ⟨ol, hol, _⟩ := id hl
  have hS : (s.heap.push { cls := .type "list", data := .seq #[] }).get? s.heap.objs.size = some { cls := .type "list", data := .seq #[] } := Heap.get?_push_size _ rfl
  refine ⟨⟨_, hS, rfl⟩, PySem.F.args_list_init_2 _ _, init_rev (A := A.in1) (s := { s with heap := s.heap.push { cls := .type "list", data := .seq #[] } }) hh (hit.at fun o e => Heap.get?_push_of_some _ e) (hl.push _) hne (Nat.ne_of_gt (Heap.lt_size hoi)) (Nat.ne_of_gt (Heap.lt_size hol)) hn hS
    fun h' tk acc' c' hk hS' hacc => ?_⟩
  exact ⟨rfl, hQ h' tk acc' c' (fun b o hb e => hk b o (Nat.ne_of_lt (Heap.lt_size e)) hb (Heap.get?_push_of_some _ e)) hS' hacc⟩
end
/-- list(reversed(x)), x a list: a new list -/
def tLstRev (K : PySem.W.Frag) (te : TE) : TE := fun σ H Q => te σ H fun v H1 => ∃ (a : Addr) (xs : List V), v = .ref a ∧ SqL K H1 a xs ∧ ∀ q, H1 q = none → Q (.ref q) (upd H1 q (.lst xs.reverse))
section
variable {X : Cx}
theorem pe_lstRev {e : Expr} {te : TE} {p p2 pos pos2 : Pos} (hc : X.calm = true) (hg : Gl X "list") (hm : X.mg "list" = none) (hg2 : Gl X "reversed") (hm2 : X.mg "reversed" = none) (he : PE X e te)
    (hs : starEach [e] X.env = (false, eval e X.env) :: starEach [] X.env := by rfl)
    (hs2 : starEach [.Call (.Name "reversed" p2) [e] [] pos2] X.env = (false, eval (.Call (.Name "reversed" p2) [e] [] pos2) X.env) :: starEach [] X.env := by rfl) :
    PE X (.Call (.Name "list" p) [.Call (.Name "reversed" p2) [e] [] pos2] [] pos) (tLstRev X.K te) := by
  refine ⟨fun pins s σ H Q I h => ?_⟩
  refine Call_ (ld_blt I hg hm boot_list (PyProof.Rows.callWith_type1 (args_cons (Call_ (ld_blt I hg2 hm2 PyProof.Rows.boot_reversed (PyProof.Rows.callWith_type1 (args_cons (thn (he.run pins s σ H _ I h) fun u s1 ⟨v, H1, I1, r1, q1⟩ => args_nil ?_) hs) hs rfl))) hs2) hs2 rfl))
  obtain ⟨a, xs, ev, hq, q⟩ := q1
  subst ev
  obtain rfl : u = Value.ref a := r1
  obtain ⟨its, rv, p', hz⟩ := I1.list hq
  refine call_reversed_list p'.isList (args_nil ?_)
  have k0 : ∀ b o, s1.heap.get? b = some o → (s1.heap.push (revObj a ((its.toArray.size : Int) - 1))).get? b = some o := fun b o e => Heap.get?_push_of_some _ e
  have I2 : Inv X pins σ H1 { s1 with heap := s1.heap.push (revObj a ((its.toArray.size : Int) - 1)) } := I1.kept (t' := s1.toks) k0
  obtain ⟨f0, f1, f2, f3, f4, f5⟩ := I1.fpOk (H' := H1) (b := s1.heap.objs.size) (Nat.le_refl _) (I1.hok.fresh (Nat.le_refl _))
  have hl := p'.isList
  obtain ⟨ol, hol, _⟩ := id hl
  have hne : a ≠ s1.heap.objs.size := Nat.ne_of_lt (Heap.lt_size hol)
  have hn : its.toArray.size ≤ sizeLine := by rw [List.size_toArray, ← rv.length]; exact hz
  have hsz : (s1.heap.push (revObj a ((its.toArray.size : Int) - 1))).objs.size = s1.heap.objs.size + 1 := size_push' _ _
  refine call_list_rev (s := { s1 with heap := s1.heap.push (revObj a ((its.toArray.size : Int) - 1)) }) (I1.ok.hd hc) ⟨_, Heap.get?_push_size _ rfl, rfl, rfl⟩ (hl.push _) hne hn fun h' tk acc c' hk hS hi => ?_
  -- the new list at the place behind the iterator; the iterator itself has turned
  have I3 : Inv X pins σ H1 { s1 with heap := h', toks := tk } := I2.turned (t' := tk) (fun b o hb e => hk b o hb e) f0 f1 f3 f4 f5
  rw [hsz] at hS
  have hL : H1 (s1.heap.objs.size + 1) = none := I1.hok.fresh (Nat.le_succ _)
  have old : ∀ b o, (s1.heap.push (revObj a ((its.toArray.size : Int) - 1))).get? b = some o → b ≠ s1.heap.objs.size + 1 := fun b o e => Nat.ne_of_lt (by have := Heap.lt_size e; rw [hsz] at this; exact this)
  have new : ObjOk X.prog X.w (upd H1 (s1.heap.objs.size + 1) (.lst xs.reverse)) h' (s1.heap.objs.size + 1) (.lst xs.reverse) :=
    ⟨by rw [List.length_reverse]; exact hz, acc.toList, c', RT.vals_rev rv hi, by rw [Array.toArray_toList]; exact hS⟩
  have hok : HOk X.prog X.w (upd H1 (s1.heap.objs.size + 1) (.lst xs.reverse)) h' := fun b u e => by
    by_cases hb : b = s1.heap.objs.size + 1
    · subst hb; rw [upd_same] at e; cases e; exact new
    · rw [upd_ne hb] at e
      exact (I3.hok b u e).stay (fun c v _ q => q) (fun c q => by rw [upd_ne (ne_of_none q hL)]; exact q) fun c ys q => by rw [upd_ne (ne_of_none q hL)]; exact q
  have I4 : Inv X pins σ (upd H1 (s1.heap.objs.size + 1) (.lst xs.reverse)) { s1 with heap := h', toks := tk } := by
    refine Inv.step (s := { s1 with heap := s1.heap.push (revObj a ((its.toArray.size : Int) - 1)) }) (ch := [s1.heap.objs.size]) (g' := s1.gens) (d' := s1.drawn) I2 (fun b hb => ?_) (fun b o _ _ hc' e _ => hk b o (fun z => hc' (by simp [z])) e) (fun b o _ _ hc' e _ => ⟨o.slots, hk b o (fun z => hc' (by simp [z])) e⟩)
      (fun b o _ e n => by rw [upd_ne (old b o e)]; exact n) (fun b o hc' e => ⟨o, hk b o (fun z => hc' (by simp [z])) e⟩) (fun b ys e => by rw [upd_ne (ne_of_none e hL)]; exact e) (fun b o u e => by rw [upd_ne (ne_of_none e hL)]; exact e)
      (fun b ps e => ⟨#[], by rw [upd_ne (ne_of_none e hL), e]; simp⟩) (fun m hm => ?_) hok I2.bare
    · have e : b = s1.heap.objs.size := by simpa using hb
      subst e
      exact ⟨f3, f1, f4, f5⟩
    · obtain ⟨o, es, ep, ho, r⟩ := hm
      exact ⟨o, es, ep, hk _ o (Ne.symm f1) ho, r⟩
  rw [hsz]
  exact ⟨.ref (s1.heap.objs.size + 1), _, I4, rfl, q _ hL⟩
end
end Sm

namespace Sm
open PySem PySem.Spec PyProof.Rows L2
/-! ### set(a list of ints, of texts) -/
def keyV (v : Value) : Key := match v with
  | .int k _ => .inl k
  | .str x _ => .inr x
  | _ => .inl 0
theorem keyV_of {k : Key} {v : Value} (h : keyIs k v = true) : keyV v = k := by
  rcases keyIs_shape h with ⟨i, t, rfl, rfl⟩ | ⟨x, t, rfl, rfl⟩ <;> rfl
def ScK (w : World) (e : Int × Value) : Prop := ∃ k : Key, keyIs k e.2 = true ∧ e.1 = keyH w k
theorem scK_is {w : World} {e : Int × Value} (g : ScK w e) (k : Key) : keyIs k e.2 = true ↔ keyV e.2 = k := by
  obtain ⟨k0, h, _⟩ := g
  refine ⟨keyV_of, fun q => ?_⟩
  rw [← q, keyV_of h]; exact h
theorem scan_key {k : Key} {v : Value} (h : keyIs k v = true) : v.scannable = true := by
  rcases keyIs_shape h with ⟨i, t, rfl, rfl⟩ | ⟨x, t, rfl, rfl⟩ <;> rfl
theorem scK_elems {P : Program} {w : World} {l : List (Int × Value)} (g : ∀ e ∈ l, ScK w e) : ElemsOf (mixKind P w) l := fun e he => by
  obtain ⟨k, h1, h2⟩ := g e he
  exact ⟨⟨k, h1, h2⟩, scan_key h1⟩
/-- the set at a has just the keys of ks; its table can be walked -/
def SetG (w : World) (h : Heap) (a : Addr) (ks : List Key) : Prop :=
  ∃ o es ep t, h.get? a = some o ∧ o.ExactSet ∧ o.data = .set es ep t ∧ (∀ e ∈ es.toList, ScK w e) ∧ (es.toList.map fun e => keyV e.2).Nodup ∧ (∀ k, k ∈ ks ↔ k ∈ es.toList.map fun e => keyV e.2) ∧
    es.size ≤ ks.length ∧ t.fits es.size = true ∧ Ris t.place.toList ∧ (w.params.followText "set-order" = true ∨ t.led = true)
theorem SetG.mono {w : World} {h h' : Heap} {a : Addr} {ks : List Key} (R : SetG w h a ks) (k : ∀ o, h.get? a = some o → h'.get? a = some o) : SetG w h' a ks := by
  obtain ⟨o, es, ep, t, ho, r⟩ := R
  exact ⟨o, es, ep, t, k o ho, r⟩
theorem SetG.same {w : World} {h : Heap} {a : Addr} {ks ks' : List Key} (R : SetG w h a ks) (e : ∀ k, k ∈ ks' ↔ k ∈ ks) (l : ks.length ≤ ks'.length) : SetG w h a ks' := by
  obtain ⟨o, es, ep, t, ho, h1, h2, h3, h4, h5, h6, r⟩ := R
  exact ⟨o, es, ep, t, ho, h1, h2, h3, h4, fun k => (e k).trans (h5 k), by omega, r⟩
theorem setG_new {w : World} {h : Heap} {a : Addr} (ho : h.get? a = some { cls := .type "set", dict := none, data := .set #[] 0 (.fresh 0 0 (!w.params.followText "set-order")) }) : SetG w h a [] :=
  ⟨_, #[], 0, _, ho, ⟨rfl, rfl, rfl⟩, rfl, (fun e he => by simp at he), (by simp), (fun k => by simp), (by decide), (by rfl), List.Pairwise.nil, by
    show _ ∨ (!w.params.followText "set-order") = true
    cases w.params.followText "set-order"
    · exact .inr rfl
    · exact .inl rfl⟩
section
variable {P : Program} {w : World} {A : Around} {E : Value → Shared → Prop} {s : Shared} {a : Addr} {ks : List Key}
/-- the rows with one more are laid -/
theorem setG_tail {g : Bool → Sem Unit} (hg : ∀ (b : Bool) (s1 : Shared) (Q' : Unit → Shared → Prop), Q' () s1 → wpAny (model P w) A (g b) Q' E s1) {o : Obj} {es : Array (Int × Value)} {ep : Nat} {t : SetTable} (ho : s.heap.get? a = some o) (hex : o.ExactSet) (hd : o.data = .set es ep t)
    {es1 : Array (Int × Value)} {t2 : SetTable} (g1 : ∀ e ∈ es1.toList, ScK w e) (nd1 : (es1.toList.map fun e => keyV e.2).Nodup) (m1 : ∀ k, k ∈ ks ↔ k ∈ es1.toList.map fun e => keyV e.2) (hl1 : es1.size ≤ ks.length) (hb1 : es1.size < scanBound)
    (hf2 : t2.fits es1.size = true) (hr : Ris t2.place.toList) (hl : w.params.followText "set-order" = true ∨ t2.led = true) {wasDummy : Bool} {R : Option Bool → Shared → Prop} (hR : ∀ h', Heap.SameBut a s.heap h' → SetG w h' a ks → R (some true) { s with heap := h' }) :
    wpAny (model P w) A (do
        storeSet a es1 t2
        if (!wasDummy && t2.tooFull) = true then do
            g (relayAll t2 es1 (SetTable.grown es1.size)).2.2
            storeSet a (relayAll t2 es1 (SetTable.grown es1.size)).1 (relayAll t2 es1 (SetTable.grown es1.size)).2.1
            pure (some true)
          else pure (some true)) R E s := by
  refine wpAny_bind (wpAny_storeSet_of ho hd ?_ (fits_of_scanBound hb1))
  have ho1 := store_at (es' := es1) (t' := t2) ho hd
  have sb1 := Heap.SameBut.update s.heap a (Obj.putSet es1 t2)
  split
  · have pm := relayAll_perm t2 es1 (SetTable.grown es1.size)
    have hf3 := relayAll_fits t2 es1 (SetTable.grown es1.size)
    have hr3 := relayAll_ris t2 es1 (SetTable.grown es1.size)
    have hl3 := relayAll_led t2 es1 (SetTable.grown es1.size)
    generalize relayAll t2 es1 (SetTable.grown es1.size) = Z at pm hf3 hr3 hl3 ⊢
    obtain ⟨es2, t3, gave⟩ := Z
    dsimp only at pm hf3 hr3 hl3 ⊢
    have hsz : es2.size = es1.size := by rw [← Array.length_toList, pm.length_eq, Array.length_toList]
    refine wpAny_bind (hg _ _ _ ?_)
    refine wpAny_bind (wpAny_storeSet_of ho1 rfl ?_ (fits_of_scanBound (by rw [hsz]; exact hb1)))
    have ho2 := store_at (es' := es2) (t' := t3) ho1 rfl
    have pk := pm.map fun e : Int × Value => keyV e.2
    exact wpAny_pure (hR _ (sb1.trans (Heap.SameBut.update _ a _)) ⟨_, es2, _, t3, ho2, hex, rfl, fun e he => g1 e (pm.mem_iff.mp he), pk.nodup_iff.mpr nd1, fun k => (m1 k).trans pk.mem_iff.symm, by omega, hf3, hr3, hl.imp id fun z => by rw [hl3]; exact z⟩)
  · exact wpAny_pure (hR _ sb1 ⟨_, es1, _, t2, ho1, hex, rfl, g1, nd1, m1, hl1, hf2, hr, hl⟩)
theorem setG_add {k : Key} {v : Value} {Q : Bool → Shared → Prop} (hv : keyIs k v = true) (R : SetG w s.heap a ks) (room : ks.length + 1 < scanBound) (hQ : ∀ b h', Heap.SameBut a s.heap h' → SetG w h' a (ks ++ [k]) → Q b { s with heap := h' }) :
    wpAny (model P w) A (setAddHashed a v ((mixKind P w).hash k)) Q E s := by
  obtain ⟨o, es, ep, t, ho, hex, hd, g, nd, hm, hn, hf, hr, hl⟩ := R
  have hkey : (mixKind P w).is k v = true := hv
  have hsc : v.scannable = true := scan_key hv
  have hel : ElemsOf (mixKind P w) es.toList := scK_elems g
  have hb : es.size < scanBound := by omega
  unfold setAddHashed setAddHashedIn
  refine wpAny_holding (wpAny_bind (wpAny_setState_of ho hd hf ?_))
  dsimp only
  rw [byScan_of hsc hb hel]
  simp only [↓reduceIte]
  unfold setAddByScan
  refine wpAny_bind ?_
  refine wpAny_bind (wpAny_rule ?_)
  refine wpAny_bind (wpAny_setScan_of hkey ho hd hf hel ?_)
  cases hfi : List.findIdx? (fun e => (mixKind P w).is k e.2) es.toList with
  | some j =>
    dsimp only
    obtain ⟨hj, pj, _⟩ := List.findIdx?_eq_some_iff_getElem.mp hfi
    have hin : k ∈ es.toList.map fun e => keyV e.2 := List.mem_map.mpr ⟨_, List.getElem_mem hj, keyV_of pj⟩
    refine wpAny_pure (wpAny_pure ?_)
    refine hQ _ s.heap (Heap.SameBut.refl a s.heap) ⟨o, es, ep, t, ho, hex, hd, g, nd, fun i => ?_, by simp; omega, hf, hr, hl⟩
    rw [← hm i, List.mem_append, List.mem_singleton]
    exact ⟨fun z => z.elim id fun e => by rw [e]; exact (hm k).mpr hin, .inl⟩
  | none =>
    dsimp only
    have hnk : k ∉ es.toList.map fun e => keyV e.2 := fun z => by
      obtain ⟨e, he, q⟩ := List.mem_map.mp z
      have c := List.findIdx?_eq_none_iff.mp hfi e he
      have q2 : (mixKind P w).is k e.2 = true := (scK_is (g e he) k).mpr q
      rw [q2] at c
      cases c
    have hgw : ∀ (b : Bool) {s1 : Shared} {Q' : Unit → Shared → Prop}, Q' () s1 → wpAny (model P w) A (match b with | true => rule "set.scan.the-table-gave-way" | false => pure ()) Q' E s1 :=
      fun b s1 Q' q => by cases b <;> first | exact wpAny_pure q | exact wpAny_rule q
    have pm := layNew_perm t es ((mixKind P w).hash k) v
    have hf1 := layNew_fits t es ((mixKind P w).hash k) v
    have hr1 := layNew_ris t es ((mixKind P w).hash k) v hr
    have hl1 := layNew_led t es ((mixKind P w).hash k) v
    generalize layNew t es ((mixKind P w).hash k) v = Z at pm hf1 hr1 hl1 ⊢
    obtain ⟨es1, t1, wasDummy, gave⟩ := Z
    dsimp only at pm hf1 hr1 hl1 ⊢
    rw [Array.toList_push] at pm
    have pc : es1.toList.Perm (((mixKind P w).hash k, v) :: es.toList) := pm.trans (List.perm_append_singleton _ _)
    have pk : (es1.toList.map fun e => keyV e.2).Perm (k :: es.toList.map fun e => keyV e.2) := by
      have q := pc.map fun e : Int × Value => keyV e.2
      rw [List.map_cons] at q
      have ek : keyV v = k := keyV_of hv
      rw [ek] at q
      exact q
    have g1 : ∀ e ∈ es1.toList, ScK w e := fun e he => by
      rcases List.mem_cons.mp (pc.mem_iff.mp he) with z | z
      · rw [z]; exact ⟨k, hv, rfl⟩
      · exact g e z
    have nd1 : (es1.toList.map fun e => keyV e.2).Nodup := pk.nodup_iff.mpr (List.nodup_cons.mpr ⟨hnk, nd⟩)
    have m1 : ∀ i, i ∈ ks ++ [k] ↔ i ∈ es1.toList.map fun e => keyV e.2 := fun i => by
      rw [List.mem_append, List.mem_singleton, hm i, pk.mem_iff, List.mem_cons]
      exact Or.comm
    have hsz : es1.size = es.size + 1 := by rw [← Array.length_toList, pc.length_eq, List.length_cons, Array.length_toList]
    have hsz2 : es1.size ≤ (ks ++ [k]).length := by simp; omega
    have hb1 : es1.size < scanBound := by omega
    have hled : w.params.followText "set-order" = true ∨ t1.led = true := hl.imp id fun z => by rw [hl1]; exact z
    refine wpAny_bind (hgw _ ?_)
    split
    · refine wpAny_bind ?_
      rw [hashByValue_scannable 8 hsc]
      refine wpAny_pure ?_
      refine setG_tail (ks := ks ++ [k]) ?_ ho hex hd g1 nd1 m1 hsz2 hb1 ?_ ?_ ?_ ?_
      · intro b s1 Q' q; cases b <;> first | exact wpAny_pure q | exact wpAny_rule q
      · first | (split <;> first | exact hf1 | exact SetTable.fits_plain_off hf1) | exact hf1
      · first | (split <;> exact hr1) | exact hr1
      · first | (split <;> exact hled) | exact hled
      · intro h' sb r; dsimp only; exact wpAny_pure (hQ _ h' sb r)
    · refine wpAny_bind (wpAny_pure ?_)
      simp only [↓reduceIte]
      refine setG_tail (ks := ks ++ [k]) ?_ ho hex hd g1 nd1 m1 hsz2 hb1 hf1 hr1 hled ?_
      · intro b s1 Q' q; cases b <;> first | exact wpAny_pure q | exact wpAny_rule q
      · intro h' sb r; dsimp only; exact wpAny_pure (hQ _ h' sb r)
/-- the walk that lays the items -/
theorem setG_loop {I : Addr} {fp wr : List Addr} {G : Array GenState → Array GenState → Prop} {n : Nat} {Pv : Nat → Value → Prop} {St : Nat → Shared → Prop} {R : Result → Shared → Prop}
    (W : WalksS P w A.in1 I fp wr G n Pv St) (S : Addr) (hSf : S ∉ fp) (hn : n = ks.length) (hb : ks.length + 1 < scanBound) (hval : ∀ i v, Pv i v → ∃ k, ks[i]? = some k ∧ keyIs k v = true) :
    ∀ (k i : Nat) (s : Shared), n - i = k → i ≤ n → St i s → SetG w s.heap S (ks.take i) →
      (∀ s', Moved (S :: wr) G s s' → SetG w s'.heap S ks → R (.ok (.ret .none)) s') → codeAny (model P w) A (.builtin "set.update.loop" ⟨[.ref S, .ref I], []⟩) R s := by
  have hSw : S ∉ wr := fun h => hSf (W.sub _ h)
  have hsub : ∀ b ∈ wr, b ∈ S :: wr := fun b hb => List.mem_cons_of_mem _ hb
  intro k
  induction k with
  | zero =>
    intro i s hk' hi hst hS hR
    have hin : i = n := by omega
    subst hin
    refine codeAny_builtin PyProof.Rows.F.entry_set_update_loop ?_
    rw [Around.under_plainId PyProof.Rows.F.plain_set_update_loop _]
    show wpAny _ A.in1 (pyNext (.ref I) >>= _) _ _ s
    refine wpAny_bind (W.done s _ _ hst fun s' hm => ?_)
    show wpAny _ A.in1 (ret Value.none) _ _ s'
    rw [List.take_of_length_le (by omega)] at hS
    exact wpAny_pure (hR s' (hm.mono hsub) (hS.mono fun o e => hm.heap S o hSw e))
  | succ k ih =>
    intro i s hk' hi hst hS hR
    have hlt : i < n := by omega
    refine codeAny_builtin PyProof.Rows.F.entry_set_update_loop ?_
    rw [Around.under_plainId PyProof.Rows.F.plain_set_update_loop _]
    show wpAny _ A.in1 (pyNext (.ref I) >>= _) _ _ s
    refine wpAny_bind (W.item i s _ _ hlt hst fun v s' hP hst' hm => ?_)
    obtain ⟨z, hz, hv⟩ := hval i v hP
    have hS' : SetG w s'.heap S (ks.take i) := hS.mono fun o e => hm.heap S o hSw e
    show wpAny _ A.in1 (holding [v] (setAdd S v) >>= _) _ _ s'
    refine wpAny_bind (wpAny_holding ?_)
    unfold setAdd
    refine wpAny_holding ?_
    refine wpAny_bind ((mixKind P w).pyHash (k := z) hv ?_)
    refine setG_add (s := { s' with toks := s'.toks + 1 }) hv hS' (by rw [List.length_take]; omega) fun b h' hsb hS2 => ?_
    have hS3 : SetG w h' S (ks.take (i + 1)) := by
      rw [List.take_add_one, hz]; exact hS2
    refine wpAny_pure ⟨plainId_quiet PyProof.Rows.F.plain_set_update_loop _, ih (i + 1) _ (by omega) hlt (W.frame _ s' _ _ hst' (Nat.le_succ _) fun b hb o e => ?_) hS3 fun s'' hm'' hS'' => ?_⟩
    · rw [hsb.2 b (fun h : b = S => hSf (by rw [← h]; exact hb))]; exact e
    · refine hR s'' (Moved.trans W.gtrans ((hm.mono hsub).then_heap (Nat.le_succ _) fun b o hb e => ?_) hm'') hS''
      rw [hsb.2 b (fun h : b = S => hb (by rw [h]; exact List.mem_cons_self))]; exact e
/-- set(xs), xs a list of keys -/
theorem call_setG {l : Addr} {items : Array Value} {Q : Value → Shared → Prop} (hh : A.handled = none) (hl : s.heap.IsList l items) (hit : ∀ (i : Nat) v, items[i]? = some v → ∃ k, ks[i]? = some k ∧ keyIs k v = true) (hsz : items.size = ks.length) (hb : ks.length + 1 < scanBound)
    (h : ∀ (h' : Heap) (tk : Nat), SetG w h' s.heap.objs.size ks → (∀ b o, s.heap.get? b = some o → h'.get? b = some o) → Q (.ref s.heap.objs.size) { s with heap := h', toks := tk }) :
    wpAny (model P w) A (call (.type "set") [.ref l]) Q E s := by
  obtain ⟨c, tl, hmro⟩ := PySem.F.called_set.mro
  have hmade := PySem.F.called_set.made
  have hsub := PySem.F.called_set.sub
  refine wpAny_call (codeAny_of_tree ?_)
  show wpAny _ _ (callAny (.type "set") _) _ _ _
  refine wpAny_pure ⟨Code.quiet_builtin _ (by decide +kernel), codeAny_builtin PySem.F.entry_type_call ?_⟩
  rw [Around.under_plain (weight_type_call_type "set" [.ref l] []) rfl]
  have h1 := PySem.F.called_set.notType
  have h2 := PySem.F.called_set.canCreate
  have hct := PySem.F.typeCall_set_1 (.ref l)
  repeat (any_goals (first | assumption | wp_step))
  obtain ⟨O, eO⟩ : ∃ O : Obj, O = { cls := .type "set", dict := none, data := .set #[] 0 (.fresh 0 0 (!w.params.followText "set-order")) } := ⟨_, rfl⟩
  refine codeAny_mono (code_set_led1 (.ref l) (E := E) (Q₁ := fun obj s1 => obj = .ref s.heap.objs.size ∧ s1 = { s with heap := s.heap.push O }) ⟨rfl, by rw [eO]⟩) fun r s1 hr => ?_
  cases r with
  | error e => exact hr
  | ok fl =>
    cases fl with
    | ret obj =>
      obtain ⟨rfl, rfl⟩ := hr
      have hf : O.isFreed = false := by rw [eO]; rfl
      have hS : (s.heap.push O).get? s.heap.objs.size = some O := Heap.get?_push_size _ hf
      have hT : Shared.TypeIs { s with heap := s.heap.push O } (.ref s.heap.objs.size) "set" := ⟨_, hS, by rw [eO]⟩
      have hli := PySem.F.called_set.init.lookup
      have hbi := PySem.F.called_set.init.bind (.ref s.heap.objs.size)
      repeat (any_goals (first | assumption | wp_step))
      refine codeAny_mono (codeAny_call_builtin (R := wants (fun r s2 => r = .none ∧ ∃ h' tk, s2 = { s with heap := h', toks := tk } ∧ SetG w h' s.heap.objs.size ks ∧ (∀ b o, s.heap.get? b = some o → h'.get? b = some o)) E) PySem.F.called_set.init.plain PySem.F.entry_set_init (check_set_init_1 hT ?_)) fun r2 s2 hr2 => ?_
      · subst eO
        have hz1 : ∀ O : Obj, (s.heap.push O).objs.size = s.heap.objs.size + 1 := fun O => size_push' _ _
        obtain ⟨⟨ocls, odict, odata, oslots⟩, hol, hcl, nl, hdl⟩ := hl
        simp only at hcl hdl
        subst hcl; subst hdl
        have hol' := Heap.get?_push_of_some ({ cls := .type "set", dict := none, data := .set #[] 0 (.fresh 0 0 (!w.params.followText "set-order")) } : Obj) hol
        have hsls := PySem.F.sub_list_set
        have hslf := PySem.F.sub_list_frozenset
        have hne : (Value.type "list" == Value.type "dict") = false := by decide
        have hl1 : (s.heap.push ({ cls := .type "set", dict := none, data := .set #[] 0 (.fresh 0 0 (!w.params.followText "set-order")) } : Obj)).IsList l items := ⟨_, hol', rfl, nl, rfl⟩
        unfold Builtin.«set.__init__» noKeywords Builtin.Frozenset.updateFrom
        generalize hPI : pyIter = PI
        wp_walk
        subst hPI
        refine wpAny_pyIter_list hl1 ?_
        refine wpAny_bind (wpAny_runValue ?_)
        have hlS : l < s.heap.objs.size := Heap.lt_size hol
        have hh3 : A.in1.in1.in1.handled = none := by simp [hh]
        have hneI : l ≠ s.heap.objs.size + 1 := Nat.ne_of_lt (Nat.lt_succ_of_lt hlS)
        rw [← hz1 ({ cls := .type "set", dict := none, data := .set #[] 0 (.fresh 0 0 (!w.params.followText "set-order")) } : Obj)] at hneI
        have hSf : s.heap.objs.size ∉ [s.heap.objs.size + 1, l] := by
          simp only [List.mem_cons, List.not_mem_nil, or_false, not_or]
          exact ⟨Nat.ne_of_lt (Nat.lt_succ_self _), Nat.ne_of_gt hlS⟩
        rw [← hz1 ({ cls := .type "set", dict := none, data := .set #[] 0 (.fresh 0 0 (!w.params.followText "set-order")) } : Obj)] at hSf
        refine setG_loop ((Walks.list hh3 _ l hneI items).toS) s.heap.objs.size hSf hsz hb hit (items.size - 0) 0 _ (by omega) (Nat.zero_le _)
          ⟨⟨_, Heap.get?_push_size _ rfl, rfl, rfl⟩, (hl1.push _)⟩ ?hS0 ?hR
        case hS0 =>
          refine setG_new ?_
          exact Heap.get?_push_of_some _ hS
        case hR =>
          intro s' hm hS'
          obtain ⟨h', g2, d', tk', os'⟩ := s'
          have eg : g2 = s.gens := hm.gens
          have ed : d' = s.drawn := hm.drawn
          have eo : os' = s.os := hm.os
          subst eg; subst ed; subst eo
          show wpAny _ _ _ _ _ _
          refine wpAny_pure ?_
          show wpAny _ _ (ret Value.none) _ _ _
          refine wpAny_pure ⟨rfl, h', tk', rfl, hS', fun b o e => ?_⟩
          have hbl := Heap.lt_size e
          exact hm.heap b o (by simp only [List.mem_cons, List.not_mem_nil, or_false, not_or]; rw [hz1]; exact ⟨Nat.ne_of_lt hbl, Nat.ne_of_lt (Nat.lt_succ_of_lt hbl)⟩) (Heap.get?_push_of_some _ (Heap.get?_push_of_some _ e))
      · cases r2 with
        | error e => exact hr2
        | ok fl2 =>
          cases fl2 with
          | ret r =>
            obtain ⟨rfl, h', tk, rfl, hS', hk'⟩ := hr2
            repeat (any_goals (first | assumption | wp_step))
            exact h _ _ hS' hk'
          | _ => exact hr2.elim
    | _ => exact hr.elim
end
end Sm

namespace Sm
open PySem PySem.Spec PyProof.Rows L2 Srt SrtO
/-! ### texts in order -/
def strLe (x y : Str) : Prop := ¬ y.cps.toList < x.cps.toList
def strLt (v u : Value) : Bool := decide ((strOf v).cps.toList < (strOf u).cps.toList)
theorem swo_str : Swo strLt := by
  refine ⟨fun x y h => ?_, fun x y z h1 h2 => ?_⟩
  · have a := of_decide_eq_true (p := (strOf x).cps.toList < (strOf y).cps.toList) h
    exact decide_eq_false (p := (strOf y).cps.toList < (strOf x).cps.toList) (List.lt_asymm a)
  · have a := of_decide_eq_false (p := (strOf y).cps.toList < (strOf x).cps.toList) h1
    have b := of_decide_eq_false (p := (strOf z).cps.toList < (strOf y).cps.toList) h2
    exact decide_eq_false (p := (strOf z).cps.toList < (strOf x).cps.toList) (List.not_lt.mpr (List.le_trans (List.not_lt.mp a) (List.not_lt.mp b)))
theorem cps_ext {x y : Str} (h : x.cps.toList = y.cps.toList) : x = y := by
  cases x; cases y
  simp only at h
  rw [Array.toList_inj.mp h]
theorem str_one {xs ys : List Str} (p : xs.Perm ys) (h1 : xs.Pairwise strLe) (h2 : ys.Pairwise strLe) : xs = ys := by
  refine List.Perm.eq_of_pairwise (le := strLe) (fun a b _ _ ab ba => ?_) h1 h2 p
  exact cps_ext (List.le_antisymm (List.not_lt.mp ab) (List.not_lt.mp ba))
section
variable {prog : Program} {w : World} {A : Around} {E : Value → Shared → Prop} {s : Shared}
theorem strs_sortable {a : Addr} {vs : List Value} {ss : List Str} (hS : StrsAre vs ss) (h2 : 2 ≤ vs.length) : SortableO prog w A s a vs strLt := by
  intro h' _
  refine ⟨oneType', fun Q E hq => ?_, ?_⟩
  · match vs, hS, h2 with
    | v1 :: v2 :: rest, hS, _ =>
      rw [keyKind_strs hS]
      exact wpAny_pure hq
    | [], _, h => exact absurd h (by decide)
    | [v], _, h => exact absurd h (by simp)
  · intro p q hm hm'
    obtain ⟨x, t, e⟩ := hS.all _ hm
    obtain ⟨y, u, e'⟩ := hS.all _ hm'
    show wpAny (model prog w) A (keyLt' oneType' p.1 q.1) (fun r s' => s' = _ ∧ r = strLt p.1 q.1) (fun _ _ => False) _
    rw [e, e', keyLt'_oneType]
    exact oneLt_str ⟨rfl, rfl⟩
/-- sorted(a set of keys) -/
theorem sorted_setG {a : Addr} {ks : List Key} {ltv : Value → Value → Bool} {Q : Value → Shared → Prop} (O : Swo ltv) (R : SetG w s.heap a ks) (hh : A.handled = none) (hz : ks.length ≤ 1000)
    (hS : ∀ (A : Around) (s : Shared) (a : Addr) (vs : List Value), (∀ v ∈ vs, ∃ k ∈ ks, keyIs k v = true) → 2 ≤ vs.length → SortableO prog w A s a vs ltv)
    (hQ : ∀ s' p (out : List Value) (c : Nat), (∀ b o, s.heap.get? b = some o → s'.heap.get? b = some o) → s'.gens = s.gens → s'.os = s.os → s.heap.objs.size ≤ p → s'.heap.get? p = some (seqObj "list" out.toArray c) →
      (∀ v ∈ out, ∃ k ∈ ks, keyIs k v = true) → (out.map keyV).Nodup → (∀ k, k ∈ ks ↔ k ∈ out.map keyV) → Srtd ltv out → out.length ≤ ks.length → Q (.ref p) s') :
    wpAny (model prog w) A (call (.builtin "sorted") [.ref a]) Q E s := by
  obtain ⟨o, es, ep, t, ho, hex, hd, g, nd, hm, hn, hf, hr, hl⟩ := R
  refine Calls.call_function_entry kind_sorted plain_sorted entry_sorted (args_sorted1 _) ?_
  unfold Builtin.«sorted»
  refine wpAny_bind (m := checkCount "sorted" 1 1 _) (wpAny_pure ?_)
  refine wpAny_bind (collect_set (A := A.in1) hh ⟨o, ho, hex.1, hd⟩ hf (by unfold scanBound; omega) hr hl fun s1 vs k1 hz1 g1 o1 pm => ?_)
  have hvl : vs.length ≤ ks.length := by rw [pm.length_eq, List.length_map, Array.length_toList]; exact hn
  have hk : ∀ v ∈ vs, ∃ k ∈ ks, keyIs k v = true := fun v hv => by
    obtain ⟨e, he, q⟩ := List.mem_map.mp (pm.mem_iff.mp hv)
    obtain ⟨k, h1, _⟩ := g e he
    refine ⟨k, (hm k).mpr (List.mem_map.mpr ⟨e, he, keyV_of h1⟩), by rw [← q]; exact h1⟩
  have pk : (vs.map keyV).Perm (es.toList.map fun e => keyV e.2) := by
    have q := pm.map keyV
    rw [List.map_map] at q
    exact q
  have hzl : vs.length ≤ sizeLine := by rw [sizeLine_eq]; omega
  refine wpAny_bind (wpAny_newList ?_ hzl)
  have hoL : (s1.heap.push (seqObj "list" vs.toArray 0)).get? s1.heap.objs.size = some (seqObj "list" vs.toArray 0) := Heap.get?_push_size _ rfl
  refine wpAny_bind (wpAny_holding (wpAny_call_entry slot_list_sort ⟨_, hoL, rfl⟩ entry_list_sort (list_sort_ord O hoL hzl (fun h2 => hS _ _ _ _ hk h2) fun out h1 h2 => ⟨_, rfl, ?_⟩) (args_list_sort _)))
  obtain ⟨c, hc⟩ := sortedHeap_at (vs := vs) (out := out.toArray) hoL
  have po : (out.map keyV).Perm (es.toList.map fun e => keyV e.2) := (h2.perm.map keyV).trans pk
  refine wpAny_pure ⟨_, rfl, hQ _ s1.heap.objs.size out c (fun b u e => ?_) g1 o1 hz1 hc (fun v hv => hk v (h2.perm.mem_iff.mp hv)) (po.nodup_iff.mpr nd) (fun k => (hm k).trans po.mem_iff.symm) h1 (by rw [h2.perm.length_eq]; exact hvl)⟩
  have q := k1 b u e
  have hlt := Heap.lt_size q
  show (sortedHeap (s1.heap.push (seqObj "list" vs.toArray 0)) s1.heap.objs.size vs out.toArray).get? b = some u
  rw [sortedHeap_old (Nat.ne_of_lt hlt) (by rw [size_push']; exact Nat.lt_succ_of_lt hlt)]
  exact Heap.get?_push_of_some _ q
end
/-- sorted(set(x)), x a list of ints -/
def tSSI (K : PySem.W.Frag) (te : TE) : TE := fun σ H Q => te σ H fun v H1 => ∃ (l : Addr) (ns : List Int), v = .ref l ∧ SqL K H1 l (ns.map V.int) ∧ ns.length ≤ 1000 ∧
  ∀ (ms : List Int) (p : Addr), (∀ k, k ∈ ms ↔ k ∈ ns) → ms.length ≤ ns.length → H1 p = none → Q (.ref p) (upd H1 p (.lst (ms.map V.int)))
/-- sorted(set(x)), x a list of texts -/
def tSSS (K : PySem.W.Frag) (te : TE) : TE := fun σ H Q => te σ H fun v H1 => ∃ (l : Addr) (xs : List Str), v = .ref l ∧ SqL K H1 l (xs.map V.str) ∧ xs.length ≤ 1000 ∧
  ∀ (ys : List Str) (p : Addr), (∀ k, k ∈ ys ↔ k ∈ xs) → ys.Nodup → ys.Pairwise strLe → H1 p = none → Q (.ref p) (upd H1 p (.lst (ys.map V.str)))
theorem inl_of {ns : List Int} {v : Value} (h : ∃ k ∈ ns.map (Sum.inl : Int → Key), keyIs k v = true) : ∃ i t, v = Value.int i t := by
  obtain ⟨k, hk, h⟩ := h
  obtain ⟨i, _, rfl⟩ := List.mem_map.mp hk
  rcases keyIs_shape h with ⟨i, t, _, e⟩ | ⟨x, t, e, _⟩
  · exact ⟨i, t, e⟩
  · cases e
theorem inr_of {xs : List Str} {v : Value} (h : ∃ k ∈ xs.map (Sum.inr : Str → Key), keyIs k v = true) : ∃ x t, v = Value.str x t := by
  obtain ⟨k, hk, h⟩ := h
  obtain ⟨x, _, rfl⟩ := List.mem_map.mp hk
  rcases keyIs_shape h with ⟨i, t, e, _⟩ | ⟨x, t, _, e⟩
  · cases e
  · exact ⟨x, t, e⟩
theorem keyV_ints {vs : List Value} (h : ∀ v ∈ vs, ∃ i t, v = Value.int i t) : vs.map keyV = (vs.map iv).map (Sum.inl : Int → Key) := by
  rw [List.map_map]
  refine List.map_congr_left fun v hv => ?_
  obtain ⟨i, t, rfl⟩ := h v hv
  rfl
theorem keyV_strs {vs : List Value} (h : ∀ v ∈ vs, ∃ x t, v = Value.str x t) : vs.map keyV = (vs.map strOf).map (Sum.inr : Str → Key) := by
  rw [List.map_map]
  refine List.map_congr_left fun v hv => ?_
  obtain ⟨i, t, rfl⟩ := h v hv
  rfl
theorem vals_keyI : ∀ {ns : List Int} {us : List Value}, Vals (ns.map V.int) us → ∀ (i : Nat) v, us[i]? = some v → ∃ k, (ns.map (Sum.inl : Int → Key))[i]? = some k ∧ keyIs k v = true := fun {ns us} r i v hv => by
  have hl := (List.getElem?_eq_some_iff.mp hv).1
  have hn : i < ns.length := by have := r.length; rw [List.length_map] at this; omega
  have e : (ns.map V.int)[i]? = some (V.int ns[i]) := by rw [List.getElem?_map, List.getElem?_eq_getElem hn]; rfl
  obtain ⟨u, hu, t, ru⟩ := r.get e
  rw [hv] at hu
  cases hu
  refine ⟨.inl ns[i], by rw [List.getElem?_map, List.getElem?_eq_getElem hn]; rfl, by rw [ru]; exact keyIs_int _ _⟩
theorem vals_keyS : ∀ {xs : List Str} {us : List Value}, Vals (xs.map V.str) us → ∀ (i : Nat) v, us[i]? = some v → ∃ k, (xs.map (Sum.inr : Str → Key))[i]? = some k ∧ keyIs k v = true := fun {ns us} r i v hv => by
  have hl := (List.getElem?_eq_some_iff.mp hv).1
  have hn : i < ns.length := by have := r.length; rw [List.length_map] at this; omega
  have e : (ns.map V.str)[i]? = some (V.str ns[i]) := by rw [List.getElem?_map, List.getElem?_eq_getElem hn]; rfl
  obtain ⟨u, hu, t, ru⟩ := r.get e
  rw [hv] at hu
  cases hu
  refine ⟨.inr ns[i], by rw [List.getElem?_map, List.getElem?_eq_getElem hn]; rfl, by rw [ru]; exact keyIs_str _ _⟩
section
variable {X : Cx}
theorem pe_ssI {a : Expr} {ta : TE} {p p2 q pos : Pos} (hc : X.calm = true) (hg : Gl X "sorted") (hm : X.mg "sorted" = none) (hg2 : Gl X "set") (hm2 : X.mg "set" = none) (ha : PE X a ta)
    (na : starEach [a] X.env = (false, eval a X.env) :: starEach [] X.env := by rfl) : PE X (.Call (.Name "sorted" p) [.Call (.Name "set" p2) [a] [] q] [] pos) (tSSI X.K ta) := by
  refine ⟨fun pins s σ H Q I h => ?_⟩
  refine Call_ (ld_blt I hg hm (u := .builtin "sorted") (by decide +kernel) ?_)
  refine PyProof.Rows.callWith_builtin1 (PyProof.Rows.args_cons ?_ rfl) rfl rfl
  refine Call_ (ld_blt I hg2 hm2 PyProof.Rows.boot_set ?_)
  refine PyProof.Rows.callWith_type1 (PyProof.Rows.args_cons (thn (ha.run pins s σ H _ I h) fun v s1 ⟨x, H1, I1, r1, q1⟩ => PyProof.Rows.args_nil ?_) na) na rfl
  obtain ⟨l, ns, rfl, hq, hl, q1⟩ := q1
  cases r1
  obtain ⟨its, r, pl, hz⟩ := I1.list hq
  have hsz : its.toArray.size = (ns.map (Sum.inl : Int → Key)).length := by rw [List.size_toArray, ← r.length, List.length_map, List.length_map]
  refine call_setG (P := X.prog) (w := X.w) (ks := ns.map Sum.inl) (I1.ok.hd hc) pl.isList (fun i v hv => vals_keyI r i v (by simpa using hv)) hsz (by rw [List.length_map]; unfold scanBound; omega) fun h' tk hS hk => ?_
  refine PyProof.Rows.args_nil ?_
  have I2 : Inv X pins σ H1 { s1 with heap := h', toks := tk } := I1.kept hk
  refine sorted_setG (s := { s1 with heap := h', toks := tk }) swo_int hS (I1.ok.hd hc) (by rw [List.length_map]; exact hl) (fun A s a vs hv h2 => ints_sortable (ints_iv fun v hv' => inl_of (hv v hv')) h2) fun s' p out c k g o hp hg' h1 h2 h3 h4 h5 => ?_
  have hi : IntsAre out (out.map iv) := ints_iv fun v hv => inl_of (h1 v hv)
  have ek := keyV_ints fun v hv => inl_of (h1 v hv)
  have hlen : ((out.map iv).map V.int).length ≤ sizeLine := by rw [List.length_map, List.length_map, sizeLine_eq]; rw [List.length_map] at h5; omega
  have hn : H1 p = none := I2.hok.fresh hp
  have J := I2.call' (s' := s') (ch := []) (H' := upd H1 p (.lst ((out.map iv).map V.int))) o (Un.laid k hp hn) (I2.hok.laid k hp ⟨hlen, out, c, vals_of_ints hi, hg'⟩) (by rw [g]; exact I2.bare) (fun _ z => nomatch z)
  refine ⟨.ref p, _, J, rfl, q1 _ p (fun k => ?_) ?_ hn⟩
  · have := h3 (.inl k)
    rw [ek] at this
    constructor
    · intro hk
      obtain ⟨j, hj, e⟩ := List.mem_map.mp (this.mpr (List.mem_map.mpr ⟨k, hk, rfl⟩))
      cases e; exact hj
    · intro hk
      obtain ⟨j, hj, e⟩ := List.mem_map.mp (this.mp (List.mem_map.mpr ⟨k, hk, rfl⟩))
      cases e; exact hj
  · rw [List.length_map]; rw [List.length_map] at h5; exact h5
theorem pe_ssS {a : Expr} {ta : TE} {p p2 q pos : Pos} (hc : X.calm = true) (hg : Gl X "sorted") (hm : X.mg "sorted" = none) (hg2 : Gl X "set") (hm2 : X.mg "set" = none) (ha : PE X a ta)
    (na : starEach [a] X.env = (false, eval a X.env) :: starEach [] X.env := by rfl) : PE X (.Call (.Name "sorted" p) [.Call (.Name "set" p2) [a] [] q] [] pos) (tSSS X.K ta) := by
  refine ⟨fun pins s σ H Q I h => ?_⟩
  refine Call_ (ld_blt I hg hm (u := .builtin "sorted") (by decide +kernel) ?_)
  refine PyProof.Rows.callWith_builtin1 (PyProof.Rows.args_cons ?_ rfl) rfl rfl
  refine Call_ (ld_blt I hg2 hm2 PyProof.Rows.boot_set ?_)
  refine PyProof.Rows.callWith_type1 (PyProof.Rows.args_cons (thn (ha.run pins s σ H _ I h) fun v s1 ⟨x, H1, I1, r1, q1⟩ => PyProof.Rows.args_nil ?_) na) na rfl
  obtain ⟨l, xs, rfl, hq, hl, q1⟩ := q1
  cases r1
  obtain ⟨its, r, pl, hz⟩ := I1.list hq
  have hsz : its.toArray.size = (xs.map (Sum.inr : Str → Key)).length := by rw [List.size_toArray, ← r.length, List.length_map, List.length_map]
  refine call_setG (P := X.prog) (w := X.w) (ks := xs.map Sum.inr) (I1.ok.hd hc) pl.isList (fun i v hv => vals_keyS r i v (by simpa using hv)) hsz (by rw [List.length_map]; unfold scanBound; omega) fun h' tk hS hk => ?_
  refine PyProof.Rows.args_nil ?_
  have I2 : Inv X pins σ H1 { s1 with heap := h', toks := tk } := I1.kept hk
  refine sorted_setG (s := { s1 with heap := h', toks := tk }) swo_str hS (I1.ok.hd hc) (by rw [List.length_map]; exact hl) (fun A s a vs hv h2 => strs_sortable (strsAre_map vs fun v hv' => inr_of (hv v hv')) h2) fun s' p out c k g o hp hg' h1 h2 h3 h4 h5 => ?_
  have hi : StrsAre out (out.map strOf) := strsAre_map out fun v hv => inr_of (h1 v hv)
  have ek := keyV_strs fun v hv => inr_of (h1 v hv)
  have hlen : ((out.map strOf).map V.str).length ≤ sizeLine := by rw [List.length_map, List.length_map, sizeLine_eq]; rw [List.length_map] at h5; omega
  have hn : H1 p = none := I2.hok.fresh hp
  have J := I2.call' (s' := s') (ch := []) (H' := upd H1 p (.lst ((out.map strOf).map V.str))) o (Un.laid k hp hn) (I2.hok.laid k hp ⟨hlen, out, c, vals_of_strs hi, hg'⟩) (by rw [g]; exact I2.bare) (fun _ z => nomatch z)
  refine ⟨.ref p, _, J, rfl, q1 _ p (fun k => ?_) ?_ ?_ hn⟩
  · have := h3 (.inr k)
    rw [ek] at this
    constructor
    · intro hk
      obtain ⟨j, hj, e⟩ := List.mem_map.mp (this.mpr (List.mem_map.mpr ⟨k, hk, rfl⟩))
      cases e; exact hj
    · intro hk
      obtain ⟨j, hj, e⟩ := List.mem_map.mp (this.mp (List.mem_map.mpr ⟨k, hk, rfl⟩))
      cases e; exact hj
  · rw [ek] at h2
    exact List.Pairwise.of_map _ (fun a b h e => h (by rw [e])) h2
  · exact List.pairwise_map.mpr (h4.imp fun {x y} h => of_decide_eq_false (p := (strOf y).cps.toList < (strOf x).cps.toList) h)
end
/-- sorted(x), x a list of texts, in order by code points -/
def rSortedL (K : PySem.W.Frag) : List V → Hp → VK → Prop := fun vs H Q => ∃ (a : Addr) (xs : List Str), vs = [V.ref a] ∧ SqL K H a (xs.map V.str) ∧
  ∀ (ys : List Str) (p : Addr), ys.Perm xs → ys.Pairwise strLe → H p = none → Q (.ref p) (upd H p (.lst (ys.map V.str)))
theorem cr_sortedL {X : Cx} : CallR X (.builtin "sorted") (rSortedL X.K) := by
  intro pins s σ H vs us Q I r h
  obtain ⟨a, xs, rfl, hs, q⟩ := h
  obtain ⟨its, rv, hl, hz⟩ := I.list hs
  rw [Vals.ref1 r]
  have hi := rv.strs
  refine SrtO.sorted_ord swo_str hl.isList (by rw [← rv.length]; exact hz) (fun h2 h1 a' _ _ => strs_sortable hi h2) fun out h1 h2 => ?_
  have ho : StrsAre out (out.map strOf) := strsAre_map out fun v hv => hi.all v (h2.perm.mem_iff.mp hv)
  have pm : (out.map strOf).Perm xs := by
    have q := h2.perm.map strOf
    rw [hi.strs] at q
    exact q
  obtain ⟨ep, he'⟩ := PyProof.Rows.sortedAll_at s.heap its out.toArray
  have hlen : ((out.map strOf).map V.str).length ≤ sizeLine := by
    rw [List.length_map, pm.length_eq]
    rw [List.length_map] at hz
    exact hz
  exact ⟨.ref _, upd H (s.heap.objs.size + 1) (.lst ((out.map strOf).map V.str)), I.laid (t' := s.toks) (fun _ _ => PyProof.Rows.sortedAll_old) (Nat.le_succ _) ⟨hlen, out, ep, vals_of_strs ho, he'⟩, rfl,
    q _ _ pm (List.pairwise_map.mpr (h1.imp fun {x y} h => of_decide_eq_false (p := (strOf y).cps.toList < (strOf x).cps.toList) h)) (I.hok.fresh (Nat.le_succ _))⟩
end Sm

namespace Sm
open PySem L2
def letters : Str := "abcdefghijklmnopqrstuvwxyz"
/-- a name: one to eight small letters -/
def IsNm (x : Str) : Prop := 1 ≤ x.length ∧ x.length ≤ 8 ∧ ∀ (c : Nat), c ∈ x.cps.toList → c ∈ letters.cps.toList
/-- a comprehension without a test -/
theorem lc_all {J : It} {n : Nat} {G : Hp → Prop} {Y : Nat → Hp → V → Hp → Prop} (w : Walk J n G Y) {g : TG} {te : TE} {vs : List Nat} {σ : L2.St} {H1 : Hp} {D : Addr} {Qd : Hp → Prop} (Pv : Nat → Hp → Prop) (h0 : Pv 0 (upd H1 D (.lst []))) (hG : ∀ i H, i ≤ n → Pv i H → G H)
    (hs : ∀ i x H H', i < n → Pv i H → Y i H x H' → g x (wipe σ vs) H' fun σ2 H2 => wipe σ2 vs = wipe σ vs ∧ te σ2 H2 fun y H4 => ∃ acc, H4 D = some (.lst acc) ∧ acc.length < sizeLine ∧ Pv (i + 1) (upd H4 D (.lst (acc ++ [y])))) (hd : ∀ H, Pv n H → Qd H) :
    ∃ W : Nat → Nat → Hp → Prop, (∃ m, W 0 m (upd H1 D (.lst []))) ∧ ∀ i m H, W i m H →
      (J.stop i H ∧ Qd H) ∨ (J.go i H ∧ ∃ Nx : Hp → Prop, (∀ H', Nx H' → ∃ m', m' < m ∧ W (i + 1) m' H') ∧ ∀ x H', J.yld i H x H' → g x (wipe σ vs) H' fun σ2 H2 => wipe σ2 vs = wipe σ vs ∧ tYes σ2 H2 fun b H3 =>
        if b = true then te σ2 H3 fun y H4 => ∃ acc, H4 D = some (.lst acc) ∧ acc.length < sizeLine ∧ Nx (upd H4 D (.lst (acc ++ [y]))) else Nx H3) :=
  lc_it (tt := tYes) w Pv h0 hG hs hd
/-- what stood stays, and the new list holds its items -/
structure Lc (H0 : Hp) (D : Addr) (xs : List V) (H : Hp) : Prop where
  same : Same H0 H
  at_ : H D = some (.lst xs)
theorem Lc.zero {H : Hp} {D : Addr} (nD : H D = none) : Lc H D [] (upd H D (.lst [])) := ⟨same_upd nD, upd_same⟩
theorem Lc.more {H0 H H' : Hp} {D : Addr} {xs : List V} (nD : H0 D = none) (l : Lc H0 D xs H) (s : Same H H') (y : V) : Lc H0 D (xs ++ [y]) (upd H' D (.lst (xs ++ [y]))) :=
  ⟨fun b o e => by rw [upd_ne (ne_of_none e nD)]; exact s _ _ (l.same _ _ e), upd_same⟩
theorem Lc.go {H0 H H' : Hp} {D : Addr} {xs : List V} (l : Lc H0 D xs H) (s : Same H H') : Lc H0 D xs H' := ⟨l.same.trans s, s _ _ l.at_⟩
section
variable {P : Program} {w : World} {K : PySem.W.Frag} {mg : Str → Option Value} {base : Heap}
theorem scIsName : FnScope ["thing", "sign"] ["thing"] (defScope sIsName) := ⟨rfl, rfl, rfl, by decide +kernel, rfl, by decide +kernel, by decide +kernel⟩
def spIsName : Sp := fun vs H Q _ => ∃ x : Str, vs = [.str x] ∧ IsNm x ∧ ∀ H', Same H H' → Q (.bl true) H'
theorem ok_isname {f : Addr} {fd : FuncData} (F : Fun K "is_name" "is_name" sIsName f fd) (T : Bi mg) (hL : ∃ t, mg "LETTERS" = some (.str letters t)) : FnOk P w K mg base CX0 1 f fd ["thing"] spIsName := by
  obtain ⟨tL, hL⟩ := hL
  refine F.ok scIsName (fun vs H Q E h => ?_) (fun cdv A outer s H vs Q E hr h => ?_)
  · obtain ⟨x, rfl, _⟩ := h
    rfl
  · obtain ⟨x, rfl, ⟨h1, h2, h3⟩, k⟩ := h
    refine ⟨_, pss_cons (ps_if (pt_not (pt_val (pe_callB call_isi (by rfl) T.isinstance (by decide +kernel) (pa_cons (pv 0) (pa_cons (pe_bltn (v := .ty "str") (by rfl) T.str PyProof.Rows.boot_str rfl) pa_nil))))) (pss_one (ps_ret pe_bl)) pss_nil)
      (pss_one (ps_ret (pe_and (pe_chain op_le op_le pe_int (pe_callB call_len_str (by rfl) T.len PySem.boot_len (pa_cons (pv 0) pa_nil)) pe_int)
        (pe_one (pe_callB (cr_all rfl) (by rfl) T.all (by decide +kernel) (pa_cons (pe_lc (own := [("sign", 1)]) (g := gName 1) (tt := tYes) rfl scIsName.nd (pi_str (pv 0)) (blkOk_by (own := [("sign", 1)]) (N := ["thing", "sign"]) (sc := defScope sIsName) (by decide +kernel))
          (fun _ _ _ _ _ => pg_name (i := 1) scIsName.nd rfl (Or.inl rfl)) (fun _ _ _ _ _ => pts_nil) (fun _ _ _ _ _ => pe_cmpR op_in_sign (pv 1) (pe_glob (v := .str letters) rfl hL ⟨_, rfl⟩) rfl)) pa_nil)))))), ?_⟩
    refine ⟨_, rfl, _, _, _, _, _, rfl, .ty "str", .base (.str x), kit_ty (by decide +kernel), true, rfl, iteF ?_⟩
    refine ⟨_, rfl, x, rfl, by rw [sizeLine_eq]; omega, _, _, rfl, rfl, _, rfl, ifT (by omega) ⟨_, _, rfl, rfl, _, rfl, ifT (by omega) ?_⟩⟩
    refine ⟨_, rfl, x, rfl, fun D hD => lc_all walk_str (fun i H' => Lc H D (List.replicate i (.bl true)) H') (Lc.zero hD) (fun _ _ _ _ => True.intro) ?_ ?_⟩
    · rintro i v H1 H2 hi l ⟨rfl, c, hc, rfl⟩
      have hm : c ∈ letters.cps.toList := h3 c (by rw [Array.mem_toList_iff]; exact Array.mem_of_getElem? hc)
      refine ⟨rfl, _, rfl, c, letters, rfl, rfl, List.replicate i (.bl true), l.at_, ?_, ?_⟩
      · rw [List.length_replicate]
        have : x.length = x.cps.size := rfl
        exact small1000 (by omega)
      · rw [decide_eq_true hm, List.replicate_succ']
        exact l.more hD (Same.refl _) _
    · intro H1 l
      refine ⟨D, List.replicate x.cps.size true, rfl, SqL.of ?_, ?_⟩
      · rw [List.map_replicate]; exact l.at_
      · rw [show (List.replicate x.cps.size true).all id = true from by simp]
        exact k _ l.same
end
end Sm

namespace Sm
open PySem L2
/-! ### the bundle -/
theorem nkk : ¬ (("known" : Str) = "kept") := by decide +kernel
def flds (k l : Addr) : List (Str × V) := putF "kept" (.ref l) (putF "known" (.ref k) [])
theorem flds_eq (k l : Addr) : flds k l = ([("known", V.ref k), ("kept", V.ref l)] : List (Str × V)) := by
  show (if ("known" : Str) = "kept" then [(("known" : Str), V.ref l)] else (("known" : Str), V.ref k) :: putF "kept" (V.ref l) []) = _
  rw [if_neg nkk]
  all_goals rfl
theorem flds_known (k l : Addr) : (flds k l).lookup ("known" : Str) = some (.ref k) := by
  unfold flds
  rw [lookup_putF, if_neg nkk, lookup_putF, if_pos rfl]
theorem flds_kept (k l : Addr) : (flds k l).lookup ("kept" : Str) = some (.ref l) := by
  unfold flds
  rw [lookup_putF, if_pos rfl]
theorem flds_no (k l : Addr) {m : Str} (h1 : ¬ m = "kept") (h2 : ¬ m = "known") : (flds k l).lookup m = none := by
  unfold flds
  rw [lookup_putF, if_neg h1, lookup_putF, if_neg h2]
  all_goals rfl
theorem flds_put (k l m : Addr) : putF "kept" (.ref m) (flds k l) = flds k m := by
  rw [flds_eq, flds_eq]
  show (if ("known" : Str) = "kept" then _ else (("known" : Str), V.ref k) :: (if ("kept" : Str) = "kept" then [(("kept" : Str), V.ref m)] else _)) = ([("known", V.ref k), ("kept", V.ref m)] : List (Str × V))
  rw [if_neg nkk, if_pos rfl]
/-- a Bundle of the names kn at p that keeps the rows M -/
structure BunAt (C : Addr) (H : Hp) (p dk kl : Addr) (kn : List Str) (M : List Row) : Prop where
  ob : ∃ dx, H p = some (.ins C dx (flds dk kl))
  kn : H dk = some (.lst (kn.map V.str))
  kp : ∃ ys, H kl = some (.lst ys) ∧ RowsX H ys M
/-- what the class must be -/
structure BT (K : PySem.W.Frag) (mg : Str → Option Value) (C : Addr) : Prop where
  cl : Cls K C
  nKn : NoAttr K C "known"
  nKe : NoAttr K C "kept"
  mgC : mg "Bundle" = some (.ref C)
section
variable {P : Program} {w : World} {K : PySem.W.Frag} {mg : Str → Option Value} {base : Heap}
theorem scInit : FnScope ["self", "names", "name"] ["self", "names"] (defScope sInit) := ⟨rfl, rfl, rfl, by decide +kernel, rfl, by decide +kernel, by decide +kernel⟩
def spInit (K : PySem.W.Frag) (C : Addr) : Sp := fun vs H Q _ => ∃ (p dx a : Addr) (xs : List Str), vs = [.ref p, .ref a] ∧ H p = some (.ins C dx []) ∧ SqL K H a (xs.map V.str) ∧ 1 ≤ xs.length ∧ xs.length ≤ 60 ∧ (∀ x ∈ xs, IsNm x) ∧ xs.Nodup ∧
  ∀ (H' : Hp) (dk kl : Addr) (kn : List Str), H dk = none → H kl = none → BunAt C H' p dk kl kn [] → kn.Perm xs → kn.Pairwise strLe → (∀ b o, H b = some o → b ≠ p → H' b = some o) → Q .non H'
theorem ok_init {f C : Addr} {fd : FuncData} (F : Fun K "__init__" "Bundle.__init__" sInit f fd) (T : Bi mg) (B : BT K mg C) (cN : Cal P w K mg base 1 "is_name" spIsName) (hM : ∃ t, mg "MOST_NAMES" = some (.int 60 t)) :
    FnOk P w K mg base CX0 2 f fd ["self", "names"] (spInit K C) := by
  obtain ⟨tM, hM⟩ := hM
  refine F.ok scInit (fun vs H Q E h => ?_) (fun cdv A outer s H vs Q E hr h => ?_)
  · obtain ⟨p, dx, a, xs, rfl, _⟩ := h
    rfl
  · obtain ⟨p, dx, a, xs, rfl, hp, hS, h1, h60, hnm, hnd, k⟩ := h
    refine ⟨_, pss_cons (ps_if (PW.pt (pw_or (pt_not (pt_chain op_le op_le pe_int (pe_callB call_len_seq (by rfl) T.len PySem.boot_len (pa_cons (pv 1) pa_nil)) (pe_glob (v := .int 60) rfl hM ⟨_, rfl⟩)))
        (pw_or1 (pt_not (pt_val (pe_callB (cr_all rfl) (by rfl) T.all (by decide +kernel) (pa_cons (pe_lc (own := [("name", 2)]) (g := gName 2) (tt := tYes) rfl scInit.nd (pi_list (pv 1)) (blkOk_by (own := [("name", 2)]) (N := ["self", "names", "name"]) (sc := defScope sInit) (by decide +kernel))
          (fun _ _ _ _ _ => pg_name (i := 2) scInit.nd rfl (Or.inl rfl)) (fun _ _ _ _ _ => pts_nil) (fun _ _ _ _ _ => pcal cN hr (by decide) rfl (pa_cons (pv 2) pa_nil))) pa_nil))))))) (pss_one ps_never) pss_nil)
      (pss_cons (ps_fld (pv 0) (pe_ssS rfl (by rfl) T.sorted (by rfl) T.set (pv 1)) rfl)
      (pss_cons (ps_if (pt_cmpR op_lt (pe_callB call_len_seq (by rfl) T.len PySem.boot_len (pa_cons (pe_fld (pv 0) rfl) pa_nil)) (pe_callB call_len_seq (by rfl) T.len PySem.boot_len (pa_cons (pv 1) pa_nil)) (nomark _)) (pss_one ps_never) pss_nil)
      (pss_one (ps_fld (pv 0) (pe_lst pa_nil) rfl)))), ?_⟩
    have hl : (xs.map V.str).length = xs.length := List.length_map _
    refine ⟨_, rfl, a, _, rfl, .inl hS, _, _, rfl, rfl, _, rfl, ifT (by omega) ⟨_, _, rfl, rfl, _, rfl, ?_⟩⟩
    rw [decide_eq_true (show ((xs.map V.str).length : Int) ≤ 60 by omega)]
    refine iteF ⟨_, rfl, a, rfl, ⟨_, hS⟩, fun D hD => lc_all (walk_list (xs := xs.map V.str)) (fun i H' => Lc H D (List.replicate i (.bl true)) H') (Lc.zero hD) (fun i H' _ l => l.same.seq hS) ?_ ?_⟩
    · rintro i v H1 H2 hi l ⟨rfl, hv⟩
      obtain ⟨x, hx, rfl⟩ : ∃ x, xs[i]? = some x ∧ v = V.str x := by
        rw [List.getElem?_map] at hv
        cases e : xs[i]? with
        | none => rw [e] at hv; cases hv
        | some x => rw [e] at hv; exact ⟨x, rfl, (Option.some.inj hv).symm⟩
      refine ⟨rfl, _, rfl, x, rfl, hnm x (List.mem_of_getElem? hx), fun H3 s3 => ⟨List.replicate i (.bl true), (l.go s3).at_, ?_, ?_⟩⟩
      · rw [List.length_replicate]
        exact small1000 (by omega)
      · rw [List.replicate_succ']
        exact l.more hD s3 _
    · intro H1 l
      refine ⟨D, List.replicate xs.length true, rfl, SqL.of ?_, ?_⟩
      · rw [List.map_replicate, ← hl]; exact l.at_
      rw [show (List.replicate xs.length true).all id = true from by simp]
      refine ⟨true, rfl, iteF ?_⟩
      have hp1 := l.same _ _ hp
      -- self.known = sorted(set(names))
      refine ⟨_, rfl, a, xs, rfl, l.same.seq hS, by omega, fun kn dk hm nd pw ndk => ?_⟩
      have pm : kn.Perm xs := (List.perm_ext_iff_of_nodup nd hnd).mpr hm
      have npk : p ≠ dk := ne_of_none hp1 ndk
      refine ⟨_, rfl, p, C, dx, [], rfl, by rw [upd_ne npk]; exact hp1, B.cl, B.nKn, (by show 0 < 1000; decide), ?_⟩
      -- len(self.known) < len(names)
      have s2 : ∀ b o, H b = some o → b ≠ p → (upd (upd H1 dk (.lst (kn.map V.str))) p (.ins C dx (putF "known" (.ref dk) []))) b = some o := fun b o e hb => by
        rw [upd_ne hb]; exact same_upd ndk _ _ (l.same _ _ e)
      have hkn : (upd (upd H1 dk (.lst (kn.map V.str))) p (.ins C dx (putF "known" (.ref dk) []))) dk = some (.lst (kn.map V.str)) := by rw [upd_ne npk.symm, upd_same]
      have hS2 : SqL K (upd (upd H1 dk (.lst (kn.map V.str))) p (.ins C dx (putF "known" (.ref dk) []))) a (xs.map V.str) := by
        rcases hS with (h | ⟨o, h⟩) | h
        · exact .inl (.inl (s2 _ _ h (ne_of h hp (by intro z; cases z))))
        · exact .inl (.inr ⟨o, s2 _ _ h (ne_of h hp (by intro z; cases z))⟩)
        · exact .inr h
      have hlk : (putF "known" (V.ref dk) []).lookup ("known" : Str) = some (.ref dk) := by rw [lookup_putF, if_pos rfl]
      refine ⟨_, rfl, p, C, dx, _, _, rfl, upd_same, B.cl, B.nKn, hlk, dk, _, rfl, .inl (SqL.of hkn), _, rfl, a, _, rfl, .inl hS2, _, _, rfl, rfl, _, rfl, ifF ?_ ?_⟩
      · rw [List.length_map, List.length_map, pm.length_eq]; omega
      · refine ⟨Nat.zero_le _, fun kl nkl => ?_⟩
        have npl : p ≠ kl := fun z => by rw [z, upd_same] at nkl; cases nkl
        have nkl1 : (upd H1 dk (.lst (kn.map V.str))) kl = none := by rw [upd_ne npl.symm] at nkl; exact nkl
        have ndl : dk ≠ kl := fun z => by rw [z, upd_same] at nkl1; cases nkl1
        have nkl2 : H1 kl = none := by rw [upd_ne ndl.symm] at nkl1; exact nkl1
        refine ⟨_, rfl, p, C, dx, _, rfl, by rw [upd_ne npl, upd_same], B.cl, B.nKe, (by show 1 < 1000; decide), ?_⟩
        refine k _ dk kl kn (l.same.free ndk) (l.same.free nkl2) ⟨⟨dx, upd_same⟩, ?_, [], ?_, RowsX.nil⟩ pm pw fun b o e hb => ?_
        · rw [upd_ne npk.symm, upd_ne ndl]; exact hkn
        · rw [upd_ne npl.symm, upd_same]
        · rw [upd_ne hb, upd_ne (fun z => by rw [z, l.same.free nkl2] at e; cases e)]
          exact s2 b o e hb

/-! ### number_of, lay, lift, names_at -/
structure Met (P : Program) (w : World) (K : PySem.W.Frag) (mg : Str → Option Value) (base : Heap) (k : Nat) (C : Addr) (m : Str) (sp : Sp) : Prop where
  ex : ∃ (f : Addr) (fd : FuncData) (ps : List Str), Cls K C ∧ Meth K C m f ∧ FnOk P w K mg base CX0 k f fd ps sp ∧ Binds K fd ps []
theorem pmet {X : Cx} {k j : Nat} {C : Addr} {m : Str} {sp : Sp} {pos apos : Pos} {e o : Expr} {es : List Expr} {ta : TE} {t : TA} {pl : Sem Bool} (c : Met X.prog X.w X.K X.mg X.base k C m sp) (hr : Room j X.A) (hk : k ≤ j) (he : PE X o ta) (ha : PA X (e :: es) t)
    (hst : starEach (e :: es) X.env = (false, eval e X.env) :: starEach es X.env := by rfl) (hpl : (backTo pos (starEach es X.env)).any (·.1) = false := by rfl)
    (ht : eval (.Call (.Attribute o m apos) (e :: es) [] pos) X.env = (do
      let ov ← eval o X.env
      standAt apos.atName
      let (f, first) ← holding [ov] (getMethod ov m pl)
      callWith pos f first (backTo pos (starEach (e :: es) X.env)) (backToKw pos (keywordEach [] X.env))) := by rfl) :
    PE X (.Call (.Attribute o m apos) (e :: es) [] pos) (tMeth C m sp [] E0 ta t) := by
  obtain ⟨f, fd, ps, hc, hm, G, b⟩ := c.ex
  exact pe_meth (pl := pl) he hc hm G (hr.mono hk) b .nil pass0 ha hst hpl ht
theorem flat_strs (l : List Str) : (l.map V.str).all flatV = true := by
  rw [List.all_map, List.all_eq_true]; intro x _; rfl
theorem in_strs {l : List Str} {x : Str} (h : x ∈ l) : inV (.str x) (l.map V.str) = true := by
  unfold inV
  rw [List.any_eq_true]
  refine ⟨.str x, List.mem_map.mpr ⟨x, h, rfl⟩, ?_⟩
  show (x == x) = true
  simp
theorem scNumber : FnScope ["self", "name"] ["self", "name"] (defScope sNumber) := ⟨rfl, rfl, rfl, by decide +kernel, rfl, by decide +kernel, by decide +kernel⟩
def spNumber (C : Addr) : Sp := fun vs H Q _ => ∃ (p dk kl : Addr) (kn : List Str) (M : List Row) (x : Str) (i : Nat), vs = [.ref p, .str x] ∧ BunAt C H p dk kl kn M ∧ kn[i]? = some x ∧ kn.Nodup ∧ Q (.int (i : Int)) H
theorem ok_number {f C : Addr} {fd : FuncData} (F : Fun K "number_of" "Bundle.number_of" sNumber f fd) (B : BT K mg C) : FnOk P w K mg base CX0 1 f fd ["self", "name"] (spNumber C) := by
  refine F.ok scNumber (fun vs H Q E h => ?_) (fun cdv A outer s H vs Q E hr h => ?_)
  · obtain ⟨p, dk, kl, kn, M, x, i, rfl, _⟩ := h
    rfl
  · obtain ⟨p, dk, kl, kn, M, x, i, rfl, ⟨⟨dx, hp⟩, hk, _⟩, hx, nd, k⟩ := h
    refine ⟨_, pss_cons (ps_if (pt_cmpR op_notIn_seq (pv 1) (pe_fld (pv 0) rfl) (by rfl)) (pss_one ps_never) pss_nil)
      (pss_one (ps_ret (pe_bm PySem.F.plainAttrs_list PySem.F.slot_list_index PySem.F.type_list_index mt_index (pe_fld (pv 0) rfl) (pa_cons (pv 1) pa_nil)))), ?_⟩
    refine ⟨_, rfl, _, rfl, p, C, dx, _, _, rfl, hp, B.cl, B.nKn, flds_known _ _, dk, _, rfl, .inl (SqL.of hk), rfl, flat_strs kn, ?_⟩
    rw [in_strs (List.mem_of_getElem? hx)]
    refine ⟨_, rfl, iteF ⟨_, rfl, p, C, dx, _, _, rfl, hp, B.cl, B.nKn, flds_known _ _, .inl ⟨rfl, _, SqL.of hk⟩, _, rfl, dk, _, .str x, i, .str x, rfl, rfl, SqL.of hk, rfl, flat_strs kn, ?_, ?_, ?_, k⟩⟩
    · rw [List.getElem?_map, hx]; rfl
    · show (x == x) = true
      simp
    · intro m z hm hz
      rw [List.getElem?_map] at hz
      cases e : kn[m]? with
      | none => rw [e] at hz; cases hz
      | some y =>
        rw [e] at hz
        cases hz
        show (y == x) = false
        refine beq_eq_false_iff_ne.mpr fun z => ?_
        rw [z] at e
        have := nd_ix nd e hx
        omega
theorem scLay : FnScope ["self", "name", "over", "bit"] ["self", "name", "over"] (defScope sLay) := ⟨rfl, rfl, rfl, by decide +kernel, rfl, by decide +kernel, by decide +kernel⟩
/-- a name is laid (g: withBits) or lifted (withoutBits) -/
def spOp (K : PySem.W.Frag) (C : Addr) (g : Option Nat → Option Nat → Option Nat) : Sp := fun vs H Q _ => ∃ (p dk kl o : Addr) (kn : List Str) (M : List Row) (x : Str) (i : Nat) (lo be : Option Int) (E : List Int), vs = [.ref p, .str x, .ref o] ∧ BunAt C H p dk kl kn M ∧ kn[i]? = some x ∧ kn.Nodup ∧ kn.length ≤ 60 ∧
  SqT K H o [oV lo, oV be] ∧ okS lo be ∧ Map E M ∧ (∀ y, lo = some y → y ∈ E) ∧ (∀ y, be = some y → y ∈ E) ∧ E.length ≤ 299 ∧
  ∀ (H' : Hp) (kl' : Addr) (M' : List Row), H kl' = none → BunAt C H' p dk kl' kn M' → Map E M' → (∀ q, tell M' q = g (tell M q) (if inS lo be q then some (2 ^ i) else none)) → (∀ b ob, H b = some ob → b ≠ p → H' b = some ob) → Q .non H'
theorem bit_eq (i : Nat) : (1 : Int) * 2 ^ ((i : Int).toNat) = ((2 ^ i : Nat) : Int) := by
  rw [Int.one_mul, Int.toNat_natCast]
  exact (Int.natCast_pow 2 i).symm
theorem tell_one (lo be : Option Int) (v : Nat) (q : Int) : tell [⟨lo, be, some v⟩] q = if inS lo be q then some v else none := rfl
theorem ok_lay {f C fW : Addr} {fd : FuncData} (F : Fun K "lay" "Bundle.lay" sLay f fd) (B : BT K mg C) (mN : Met P w K mg base 1 C "number_of" (spNumber C)) (cJ : Cal P w K mg base 3 "joined" (spJoined K fW withBits)) (gW : mg "with_bits" = some (.ref fW)) :
    FnOk P w K mg base CX0 4 f fd ["self", "name", "over"] (spOp K C withBits) := by
  refine F.ok scLay (fun vs H Q E h => ?_) (fun cdv A outer s H vs Q E hr h => ?_)
  · obtain ⟨p, dk, kl, o, kn, M, x, i, lo, be, E, rfl, _⟩ := h
    rfl
  · obtain ⟨p, dk, kl, o, kn, M, x, i, lo, be, E, rfl, hB, hx, nd, h60, ho, okO, mM, e1, e2, eE, k⟩ := h
    obtain ⟨⟨dx, hp⟩, hk, ys, hkl, hys⟩ := id hB
    refine ⟨_, pss_cons (ps_set (i := 3) scLay.nd rfl (Or.inl rfl) (pe_op op_shl pe_int (pmet mN hr (by decide) (pv 0) (pa_cons (pv 1) pa_nil))))
      (pss_one (ps_fld (pv 0) (pcal cJ hr (by decide) rfl (pa_cons (pe_fld (pv 0) rfl) (pa_cons (pe_lst (pa_cons (pe_tup (pa_cons (pe_ix ix_tup (pv 2) pe_int (fun _ _ => rfl)) (pa_cons (pe_ix ix_tup (pv 2) pe_int (fun _ _ => rfl)) (pa_cons (pv 3) pa_nil)))) pa_nil))
        (pa_cons (pe_glob (v := .ref fW) rfl gW rfl) pa_nil)))) rfl)), ?_⟩
    have hi : i < kn.length := (List.getElem?_eq_some_iff.mp hx).1
    refine ⟨_, rfl, p, dx, _, rfl, hp, flds_no _ _ (by decide +kernel) (by decide +kernel), _, rfl, p, dk, kl, kn, M, x, i, rfl, hB, hx, nd, 1, (i : Int), rfl, rfl, ⟨by omega, by omega, by decide⟩, ?_⟩
    refine ⟨_, rfl, p, C, dx, _, _, rfl, hp, B.cl, B.nKe, flds_kept _ _, _, rfl, o, _, _, _, rfl, rfl, ho, at_of (j := 0) rfl rfl, _, rfl, o, _, _, _, rfl, rfl, ho, at_of (j := 1) rfl rfl, _, rfl, (by show 3 ≤ sizeLine; decide), fun t nt => ?_⟩
    have s1 : Same H (upd H t (.tup [oV lo, oV be, .int (1 * 2 ^ ((i : Int).toNat))])) := same_upd nt
    refine ⟨(by show 1 ≤ sizeLine; decide), fun b nb => ?_⟩
    have s2 := s1.trans (same_upd (o := .lst [.ref t]) nb)
    have ntb : t ≠ b := fun z => by rw [← z, upd_same] at nb; cases nb
    refine ⟨kl, b, ys, [.ref t], M, [⟨lo, be, some (2 ^ i)⟩], E, rfl, SqL.of (s2 _ _ hkl), hys.mono fun c zs e => s2 c _ e, mM, by have := mM.few; omega, SqL.of upd_same, ?_, Map.one okO e1 e2, by show 1 ≤ 10; decide, ?_⟩
    · have := RowsX.nil (H := upd (upd H t (.tup [oV lo, oV be, .int (1 * 2 ^ ((i : Int).toNat))])) b (.lst [.ref t]))
      refine this.snoc (x := .ref t) ⟨t, rfl, ?_⟩
      rw [upd_ne ntb, upd_same]
      show some (HO.tup [oV lo, oV be, V.int (1 * 2 ^ ((i : Int).toNat))]) = some (HO.tup [oV lo, oV be, V.int ((2 ^ i : Nat) : Int)])
      rw [bit_eq]
    · intro H' kl' zs M' s3 nkl hkl' hzs mM' te
      have s4 : Same H H' := s2.trans s3
      have hp' := s4 _ _ hp
      have npl : p ≠ kl' := fun z => by rw [← z, s2 _ _ hp] at nkl; cases nkl
      refine ⟨_, rfl, p, C, dx, _, rfl, hp', B.cl, B.nKe, (by rw [flds_eq]; show 2 < 1000; decide), ?_⟩
      refine k _ kl' M' (s2.free nkl) ⟨⟨dx, ?_⟩, ?_, zs, ?_, hzs.mono (ntup hp' (fun xs z => by cases z) _)⟩ mM' (fun q => by rw [te q, tell_one]) fun b' ob e hb => by rw [upd_ne hb]; exact s4 _ _ e
      · rw [upd_same, flds_put]
      · rw [upd_ne (ne_of hk hp (by intro z; cases z))]; exact s4 _ _ hk
      · rw [upd_ne npl.symm]; exact hkl'
theorem scLift : FnScope ["self", "name", "over", "bit"] ["self", "name", "over"] (defScope sLift) := ⟨rfl, rfl, rfl, by decide +kernel, rfl, by decide +kernel, by decide +kernel⟩
theorem ok_lift {f C fW : Addr} {fd : FuncData} (F : Fun K "lift" "Bundle.lift" sLift f fd) (B : BT K mg C) (mN : Met P w K mg base 1 C "number_of" (spNumber C)) (cJ : Cal P w K mg base 3 "joined" (spJoined K fW withoutBits)) (gW : mg "without_bits" = some (.ref fW)) :
    FnOk P w K mg base CX0 4 f fd ["self", "name", "over"] (spOp K C withoutBits) := by
  refine F.ok scLift (fun vs H Q E h => ?_) (fun cdv A outer s H vs Q E hr h => ?_)
  · obtain ⟨p, dk, kl, o, kn, M, x, i, lo, be, E, rfl, _⟩ := h
    rfl
  · obtain ⟨p, dk, kl, o, kn, M, x, i, lo, be, E, rfl, hB, hx, nd, h60, ho, okO, mM, e1, e2, eE, k⟩ := h
    obtain ⟨⟨dx, hp⟩, hk, ys, hkl, hys⟩ := id hB
    refine ⟨_, pss_cons (ps_set (i := 3) scLift.nd rfl (Or.inl rfl) (pe_op op_shl pe_int (pmet mN hr (by decide) (pv 0) (pa_cons (pv 1) pa_nil))))
      (pss_one (ps_fld (pv 0) (pcal cJ hr (by decide) rfl (pa_cons (pe_fld (pv 0) rfl) (pa_cons (pe_lst (pa_cons (pe_tup (pa_cons (pe_ix ix_tup (pv 2) pe_int (fun _ _ => rfl)) (pa_cons (pe_ix ix_tup (pv 2) pe_int (fun _ _ => rfl)) (pa_cons (pv 3) pa_nil)))) pa_nil))
        (pa_cons (pe_glob (v := .ref fW) rfl gW rfl) pa_nil)))) rfl)), ?_⟩
    have hi : i < kn.length := (List.getElem?_eq_some_iff.mp hx).1
    refine ⟨_, rfl, p, dx, _, rfl, hp, flds_no _ _ (by decide +kernel) (by decide +kernel), _, rfl, p, dk, kl, kn, M, x, i, rfl, hB, hx, nd, 1, (i : Int), rfl, rfl, ⟨by omega, by omega, by decide⟩, ?_⟩
    refine ⟨_, rfl, p, C, dx, _, _, rfl, hp, B.cl, B.nKe, flds_kept _ _, _, rfl, o, _, _, _, rfl, rfl, ho, at_of (j := 0) rfl rfl, _, rfl, o, _, _, _, rfl, rfl, ho, at_of (j := 1) rfl rfl, _, rfl, (by show 3 ≤ sizeLine; decide), fun t nt => ?_⟩
    have s1 : Same H (upd H t (.tup [oV lo, oV be, .int (1 * 2 ^ ((i : Int).toNat))])) := same_upd nt
    refine ⟨(by show 1 ≤ sizeLine; decide), fun b nb => ?_⟩
    have s2 := s1.trans (same_upd (o := .lst [.ref t]) nb)
    have ntb : t ≠ b := fun z => by rw [← z, upd_same] at nb; cases nb
    refine ⟨kl, b, ys, [.ref t], M, [⟨lo, be, some (2 ^ i)⟩], E, rfl, SqL.of (s2 _ _ hkl), hys.mono fun c zs e => s2 c _ e, mM, by have := mM.few; omega, SqL.of upd_same, ?_, Map.one okO e1 e2, by show 1 ≤ 10; decide, ?_⟩
    · have := RowsX.nil (H := upd (upd H t (.tup [oV lo, oV be, .int (1 * 2 ^ ((i : Int).toNat))])) b (.lst [.ref t]))
      refine this.snoc (x := .ref t) ⟨t, rfl, ?_⟩
      rw [upd_ne ntb, upd_same]
      show some (HO.tup [oV lo, oV be, V.int (1 * 2 ^ ((i : Int).toNat))]) = some (HO.tup [oV lo, oV be, V.int ((2 ^ i : Nat) : Int)])
      rw [bit_eq]
    · intro H' kl' zs M' s3 nkl hkl' hzs mM' te
      have s4 : Same H H' := s2.trans s3
      have hp' := s4 _ _ hp
      have npl : p ≠ kl' := fun z => by rw [← z, s2 _ _ hp] at nkl; cases nkl
      refine ⟨_, rfl, p, C, dx, _, rfl, hp', B.cl, B.nKe, (by rw [flds_eq]; show 2 < 1000; decide), ?_⟩
      refine k _ kl' M' (s2.free nkl) ⟨⟨dx, ?_⟩, ?_, zs, ?_, hzs.mono (ntup hp' (fun xs z => by cases z) _)⟩ mM' (fun q => by rw [te q, tell_one]) fun b' ob e hb => by rw [upd_ne hb]; exact s4 _ _ e
      · rw [upd_same, flds_put]
      · rw [upd_ne (ne_of hk hp (by intro z; cases z))]; exact s4 _ _ hk
      · rw [upd_ne npl.symm]; exact hkl'
theorem scNamesAt : FnScope ["self", "place", "bits", "k", "name"] ["self", "place"] (defScope sNamesAt) := ⟨rfl, rfl, rfl, by decide +kernel, rfl, by decide +kernel, by decide +kernel⟩
/-- those of the names, from the number k on, whose bit is set -/
def told (o : Option Nat) (kn : List Str) (n : Nat) : List Str := ((List.range n).filter (bitO o ·)).filterMap fun i => kn[i]?
theorem told_succ {o : Option Nat} {kn : List Str} {n : Nat} {x : Str} (h : kn[n]? = some x) : told o kn (n + 1) = told o kn n ++ (if bitO o n = true then [x] else []) := by
  unfold told
  rw [List.range_succ, List.filter_append, List.filterMap_append]
  congr 1
  by_cases c : bitO o n = true
  · rw [if_pos c, List.filter_cons, if_pos c]
    simp [h]
  · rw [if_neg c, List.filter_cons, if_neg c]
    rfl
theorem told_none (kn : List Str) (n : Nat) : told none kn n = [] := by
  unfold told
  rw [List.filter_eq_nil_iff.mpr]
  · rfl
  · intro i _ h; cases h
theorem told_len (o : Option Nat) (kn : List Str) (n : Nat) : (told o kn n).length ≤ n := by
  unfold told
  refine Nat.le_trans (List.length_filterMap_le _ _) (Nat.le_trans (List.length_filter_le _ _) ?_)
  rw [List.length_range]; exact Nat.le_refl _
def spNamesAt (C : Addr) : Sp := fun vs H Q _ => ∃ (p dk kl : Addr) (kn : List Str) (M : List Row) (q : Int), vs = [.ref p, .int q] ∧ BunAt C H p dk kl kn M ∧ WF M ∧ kn.length ≤ 60 ∧
  ∀ (H' : Hp) (d : Addr), Same H H' → H d = none → H' d = some (.lst ((told (tell M q) kn kn.length).map V.str)) → Q (.ref d) H'
theorem bit_test (b k : Nat) : decide (V.int (Builtin.bitAnd ((b : Int) / 2 ^ ((k : Int).toNat)) 1) = V.int 1) = b.testBit k := by
  have e : Builtin.bitAnd ((b : Int) / 2 ^ ((k : Int).toNat)) 1 = ((b / 2 ^ k % 2 : Nat) : Int) := by
    have h1 : (b : Int) / 2 ^ ((k : Int).toNat) = ((b / 2 ^ k : Nat) : Int) := by
      rw [Int.toNat_natCast, Int.natCast_ediv, Int.natCast_pow]; rfl
    rw [h1]
    show Builtin.bitAnd _ ((1 : Nat) : Int) = _
    rw [andN, Nat.and_one_is_mod]
  rw [e, Nat.testBit_eq_decide_div_mod_eq]
  by_cases c : b / 2 ^ k % 2 = 1
  · rw [decide_eq_true c, c]; exact decide_eq_true rfl
  · rw [decide_eq_false c]
    refine decide_eq_false fun z => c ?_
    have := V.int.inj z
    omega
theorem ok_names_at {f C : Addr} {fd : FuncData} (F : Fun K "names_at" "Bundle.names_at" sNamesAt f fd) (T : Bi mg) (B : BT K mg C) (cV : Cal P w K mg base 2 "value_at" (spValue K)) :
    FnOk P w K mg base CX0 3 f fd ["self", "place"] (spNamesAt C) := by
  refine F.ok scNamesAt (fun vs H Q E h => ?_) (fun cdv A outer s H vs Q E hr h => ?_)
  · obtain ⟨p, dk, kl, kn, M, q, rfl, _⟩ := h
    rfl
  · obtain ⟨p, dk, kl, kn, M, q, rfl, ⟨⟨dx, hp⟩, hk, ys, hkl, hys⟩, wf, h60, k⟩ := h
    refine ⟨_, pss_cons (ps_set (i := 2) scNamesAt.nd rfl (Or.inr rfl) (pcal cV hr (by decide) rfl (pa_cons (pe_fld (pv 0) rfl) (pa_cons (pv 1) pa_nil))))
      (pss_cons (ps_if (pt_cmpR op_isN (pv 2) pe_non (nomark _)) (pss_one (ps_ret (pe_lst pa_nil))) pss_nil)
      (pss_one (ps_ret (pe_lc (own := [("k", 3), ("name", 4)]) (g := gTup K 2 (gCons (gName 3) (gCons (gName 4) gNil))) rfl scNamesAt.nd (pi_enum (by rfl) T.enumerate (pa_cons (pe_fld (pv 0) rfl) pa_nil)) (blkOk_by (own := [("k", 3), ("name", 4)]) (N := ["self", "place", "bits", "k", "name"]) (sc := defScope sNamesAt) (by decide +kernel))
        (fun _ _ _ _ _ => by
          refine pg_tup rfl (pgs_cons ?_ (pgs_cons ?_ pgs_nil))
          · exact pg_name (i := 3) scNamesAt.nd rfl (Or.inl rfl)
          · exact pg_name (i := 4) scNamesAt.nd rfl (Or.inl rfl))
        (fun _ _ _ _ _ => pts_one (pt_cmpR op_eq (pe_op op_and (pe_op op_shr (pv 2) (pv 3)) pe_int) pe_int (nomark _))) (fun _ _ _ _ _ => pv 4))))), ?_⟩
    refine ⟨_, rfl, p, C, dx, _, _, rfl, hp, B.cl, B.nKe, flds_kept _ _, _, rfl, kl, q, ys, M, rfl, SqL.of hkl, hys, wf, ?_⟩
    cases ev : tell M q with
    | none =>
      rw [ev, told_none] at k
      exact ⟨_, rfl, rfl, _, rfl, ifT rfl ⟨Nat.zero_le _, fun d nd => k _ d (same_upd nd) nd upd_same⟩⟩
    | some b =>
      rw [ev] at k
      refine ⟨_, rfl, rfl, _, rfl, ifF nofun ?_⟩
      refine ⟨_, rfl, p, C, dx, _, _, rfl, hp, B.cl, B.nKn, flds_known _ _, dk, _, rfl, SqL.of hk, fun D nD => lc_it (walk_enum (xs := kn.map V.str)) (fun i H' => Lc H D ((told (some b) kn i).map V.str) H') (Lc.zero nD) (fun i H' _ l => l.same.seq (SqL.of hk)) ?_ ?_⟩
      · rintro i v H1 H2 hi l ⟨t, y1, y2, rfl, nt, rfl, e1, e2⟩
        cases e1
        have e2 : (kn.map V.str)[i]? = some y2 := e2
        rw [List.getElem?_map] at e2
        cases e : kn[i]? with
        | none => rw [e] at e2; cases e2
        | some x =>
          rw [e] at e2
          cases e2
          have s2 : Same H1 (upd H1 t (.tup [.int (i : Int), .str x])) := same_upd nt
          refine ⟨t, _, rfl, SqT.of upd_same, rfl, _, _, rfl, _, _, rfl, rfl, rfl, _, rfl, _, rfl, _, _, rfl, rfl, (by omega), _, _, rfl, rfl, rfl, _, rfl, ?_⟩
          rw [bit_test, told_succ e]
          show if b.testBit i = true then _ else _
          have eb : bitO (some b) i = b.testBit i := rfl
          rw [eb]
          refine ifB (fun c => ?_) (fun c => ?_)
          · rw [if_pos c]
            refine ⟨_, rfl, _, (l.go s2).at_, ?_, ?_⟩
            · rw [List.length_map]
              have := told_len (some b) kn i
              rw [List.length_map] at hi
              exact small1000 (by omega)
            · rw [List.map_append]
              exact l.more nD s2 _
          · rw [if_neg (by rw [c]; exact Bool.false_ne_true), List.append_nil]
            exact l.go s2
      · intro H1 l
        refine k H1 D l.same nD ?_
        have := l.at_
        rw [List.length_map] at this
        exact this
end
end Sm

/-! The names that the law draws: the signs, and that no two names are alike. Plain Lean. -/
namespace Sm
/-- the step at the place that stands at m in the turn -/
def stepN (core m : Nat) : Nat := if m = 0 then core else if m = 1 then core / 26 else 0
/-- where in the turn the j-th place stands: at most 2 -/
def turnN (cell : Int) (size j : Nat) : Nat := min (((j : Int) + cell / 16) % (size : Int)).toNat 2
def signZ (cell : Int) (size core j : Nat) : Int := (cell / ((j : Int) + 2) + (j : Int) * j * 5 + (stepN core (turnN cell size j) : Nat)) % 26
def signsOf (cell : Int) (size core : Nat) : List Nat := (List.range size).map fun j => 97 + (signZ cell size core j).toNat
/-- one letter more -/
def moreOf (cell : Int) (more k : Nat) : List Nat := if more = 1 ∧ k % 2 = 1 then [97 + (cell / 7 % 26).toNat] else []
def nameOf (cell : Int) (size more k : Nat) : List Nat := signsOf cell size (k / (1 + more)) ++ moreOf cell more k
theorem signZ_range (cell : Int) (size core j : Nat) : 0 ≤ signZ cell size core j ∧ signZ cell size core j < 26 :=
  ⟨Int.emod_nonneg _ (by decide), Int.emod_lt_of_pos _ (by decide)⟩
theorem signsOf_len (cell : Int) (size core : Nat) : (signsOf cell size core).length = size := by unfold signsOf; simp
theorem signsOf_eq {cell : Int} {size c d : Nat} (h : signsOf cell size c = signsOf cell size d) {j : Nat} (hj : j < size) : signZ cell size c j = signZ cell size d j := by
  have e : (signsOf cell size c)[j]? = (signsOf cell size d)[j]? := by rw [h]
  unfold signsOf at e
  rw [List.getElem?_map, List.getElem?_map, List.getElem?_range hj] at e
  have e := Option.some.inj e
  have a := signZ_range cell size c j
  have b := signZ_range cell size d j
  have e : 97 + (signZ cell size c j).toNat = 97 + (signZ cell size d j).toNat := e
  omega
/-- the places that stand at nought and at one -/
theorem turn_at (cell : Int) {size : Nat} (hs : 0 < size) (m : Nat) (hm : m < size) : ∃ j, j < size ∧ turnN cell size j = min m 2 := by
  refine ⟨(((m : Int) - cell / 16) % (size : Int)).toNat, ?_, ?_⟩
  · have a := Int.emod_nonneg ((m : Int) - cell / 16) (show (size : Int) ≠ 0 by omega)
    have b := Int.emod_lt_of_pos ((m : Int) - cell / 16) (show (0 : Int) < size by omega)
    omega
  · unfold turnN
    have a := Int.emod_nonneg ((m : Int) - cell / 16) (show (size : Int) ≠ 0 by omega)
    have e : ((((((m : Int) - cell / 16) % (size : Int)).toNat : Nat) : Int) + cell / 16) % (size : Int) = (m : Int) := by
      rw [Int.toNat_of_nonneg a, Int.emod_add_emod]
      rw [show (m : Int) - cell / 16 + cell / 16 = (m : Int) by omega]
      exact Int.emod_eq_of_lt (by omega) (by omega)
    rw [e, Int.toNat_natCast]
theorem same_step {cell : Int} {size c d j m : Nat} (h : signZ cell size c j = signZ cell size d j) (hm : turnN cell size j = m) : (stepN c m : Int) % 26 = (stepN d m : Int) % 26 := by
  unfold signZ at h
  rw [hm] at h
  generalize cell / ((j : Int) + 2) + (j : Int) * j * 5 = A at h
  omega
theorem core_one {cell : Int} {size c d : Nat} (hs : 0 < size) (h : signsOf cell size c = signsOf cell size d) (hc : c < 60) (hd : d < 60) (h1 : size = 1 → c < 26 ∧ d < 26) : c = d := by
  obtain ⟨j0, l0, t0⟩ := turn_at cell hs 0 hs
  have e0 := same_step (signsOf_eq h l0) t0
  have e0 : (c : Int) % 26 = (d : Int) % 26 := e0
  by_cases q : size = 1
  · obtain ⟨a, b⟩ := h1 q
    omega
  · obtain ⟨j1, l1, t1⟩ := turn_at cell hs 1 (by omega)
    have e1 := same_step (signsOf_eq h l1) t1
    have e1 : ((c / 26 : Nat) : Int) % 26 = ((d / 26 : Nat) : Int) % 26 := e1
    omega
theorem nameOf_inj {cell : Int} {size more k l : Nat} (hs : 0 < size) (hm : more ≤ 1) (h : nameOf cell size more k = nameOf cell size more l) (hk : k < 60) (hl : l < 60) (h1 : size = 1 → k < 26 ∧ l < 26) : k = l := by
  unfold nameOf at h
  obtain ⟨e1, e2⟩ := List.append_inj h (by rw [signsOf_len, signsOf_len])
  have hkd : k / (1 + more) ≤ k := Nat.div_le_self _ _
  have hld : l / (1 + more) ≤ l := Nat.div_le_self _ _
  have ec := core_one hs e1 (by omega) (by omega) fun q => by have := h1 q; omega
  rcases Nat.lt_or_eq_of_le hm with q | q
  · have : more = 0 := by omega
    subst this
    simpa using ec
  · subst q
    unfold moreOf at e2
    have : k % 2 = l % 2 := by
      by_cases a : k % 2 = 1 <;> by_cases b : l % 2 = 1
      · omega
      · rw [if_pos ⟨rfl, a⟩, if_neg (by omega)] at e2; cases e2
      · rw [if_neg (by omega), if_pos ⟨rfl, b⟩] at e2; cases e2
      · omega
    omega
/-- all of them -/
def namesOf (cell : Int) (size more many : Nat) : List (List Nat) := (List.range many).map fun k => nameOf cell size more k
theorem namesOf_nodup {cell : Int} {size more many : Nat} (hs : 0 < size) (hm : more ≤ 1) (hk : many ≤ 60) (h1 : size = 1 → many ≤ 26) : (namesOf cell size more many).Nodup := by
  unfold namesOf
  rw [List.nodup_iff_pairwise_ne, List.pairwise_map]
  have := List.nodup_iff_pairwise_ne.mp (List.nodup_range (n := many))
  refine List.Pairwise.imp_of_mem ?_ this
  intro a b ha hb hne e
  have la := List.mem_range.mp ha
  have lb := List.mem_range.mp hb
  exact hne (nameOf_inj hs hm e (by omega) (by omega) fun q => by have := h1 q; omega)
theorem nameOf_ok {cell : Int} {size more k : Nat} (hs : 0 < size) (h8 : size ≤ 8) (hm : more = 1 → size < 8) : 1 ≤ (nameOf cell size more k).length ∧ (nameOf cell size more k).length ≤ 8 ∧ ∀ c ∈ nameOf cell size more k, 97 ≤ c ∧ c < 123 := by
  unfold nameOf
  rw [List.length_append, signsOf_len]
  have hl : (moreOf cell more k).length ≤ 1 ∧ (more = 0 ∨ more ≥ 2 → (moreOf cell more k).length = 0) := by
    unfold moreOf
    split
    · rename_i q
      exact ⟨Nat.le_refl _, fun z => by omega⟩
    · exact ⟨Nat.zero_le _, fun _ => rfl⟩
  refine ⟨by omega, ?_, fun c hc => ?_⟩
  · by_cases q : more = 1
    · have := hm q; omega
    · have := hl.2 (by omega); omega
  · rcases List.mem_append.mp hc with z | z
    · unfold signsOf at z
      obtain ⟨j, _, rfl⟩ := List.mem_map.mp z
      have := signZ_range cell size (k / (1 + more)) j
      omega
    · unfold moreOf at z
      split at z
      · rw [List.mem_singleton.mp z]
        have a := Int.emod_nonneg (cell / 7) (show (26 : Int) ≠ 0 by decide)
        have b := Int.emod_lt_of_pos (cell / 7) (show (0 : Int) < 26 by decide)
        omega
      · cases z
end Sm

namespace Sm
open PySem L2
/-! ### the law's own defs -/
def textOf (l : List Nat) : Str := ⟨l.toArray⟩
theorem textOf_inj {a b : List Nat} (h : textOf a = textOf b) : a = b := by
  have := congrArg (fun s : Str => s.cps.toList) h
  simpa [textOf] using this
theorem textOf_len (l : List Nat) : (textOf l).length = l.length := by
  show l.toArray.size = l.length
  simp
theorem textOf_app (a b : List Nat) : textOf a ++ textOf b = textOf (a ++ b) := by
  show Str.append _ _ = _
  unfold Str.append textOf
  simp
theorem letter_at {n : Nat} (h : n < 26) : letters.cps.toList[n]? = some (97 + n) := by
  have : ∀ n, n < 26 → letters.cps.toList[n]? = some (97 + n) := by decide +kernel
  exact this n h
theorem letter_in {c : Nat} (h : 97 ≤ c ∧ c < 123) : c ∈ letters.cps.toList := by
  have e := letter_at (n := c - 97) (by omega)
  rw [show 97 + (c - 97) = c by omega] at e
  exact List.mem_of_getElem? e
theorem join_ones (l : List Nat) : Txt.join ("" : Str) (l.map fun c => (⟨#[c]⟩ : Str)) = textOf l := by
  have e : TL.tl (Txt.join ("" : Str) (l.map fun c => (⟨#[c]⟩ : Str))) = l := by
    rw [TL.join_eq, TL.tl_join, List.map_map]
    have : ∀ l : List Nat, TL.joinL (TL.tl ("" : Str)) (l.map (TL.tl ∘ fun c => (⟨#[c]⟩ : Str))) = l := by
      intro l
      induction l with
      | nil => rfl
      | cons a r ih =>
        cases r with
        | nil => rfl
        | cons b r =>
          show [a] ++ (TL.tl ("" : Str) ++ TL.joinL (TL.tl ("" : Str)) ((b :: r).map (TL.tl ∘ fun c => (⟨#[c]⟩ : Str)))) = a :: b :: r
          rw [ih, show TL.tl ("" : Str) = [] by decide +kernel]
          rfl
    exact this l
  have h : (Txt.join ("" : Str) (l.map fun c => (⟨#[c]⟩ : Str))).cps.toList = l := e
  generalize Txt.join ("" : Str) (l.map fun c => (⟨#[c]⟩ : Str)) = z at h ⊢
  cases z
  unfold textOf
  rw [← h]
section
variable {P : Program} {w : World} {K : PySem.W.Frag} {mg : Str → Option Value} {base : Heap}
theorem scCellAt : FnScope ["_law_script", "_law_k"] ["_law_script", "_law_k"] (defScope sCellAt) := ⟨rfl, rfl, rfl, by decide +kernel, rfl, by decide +kernel, by decide +kernel⟩
def spCellAt (K : PySem.W.Frag) : Sp := fun vs H Q _ => ∃ (a : Addr) (ns : List Int) (k : Nat), vs = [.ref a, .int (k : Int)] ∧ SqL K H a (ns.map V.int) ∧ ∀ z : Int, Q (.int z) H
theorem ok_cell {f : Addr} {fd : FuncData} (F : Fun K "_law_cell_at" "_law_cell_at" sCellAt f fd) (T : Bi mg) : FnOk P w K mg base CX0 1 f fd ["_law_script", "_law_k"] (spCellAt K) := by
  refine F.ok scCellAt (fun vs H Q E h => ?_) (fun cdv A outer s H vs Q E hr h => ?_)
  · obtain ⟨a, ns, k, rfl, _⟩ := h
    rfl
  · obtain ⟨a, ns, k, rfl, hS, q⟩ := h
    refine ⟨_, pss_cons (ps_if (pt_cmpR op_lt (pv 1) (pe_callB call_len_seq (by rfl) T.len PySem.boot_len (pa_cons (pv 0) pa_nil)) (nomark _)) (pss_one (ps_ret (pe_ix ix_list (pv 0) (pv 1) (fun _ _ => rfl)))) pss_nil)
      (pss_one (ps_ret pe_int)), ?_⟩
    refine ⟨_, rfl, _, rfl, a, _, rfl, .inl hS, _, _, rfl, rfl, _, rfl, ?_⟩
    by_cases c : (k : Int) < ((ns.map V.int).length : Int)
    · refine ifT c ?_
      rw [List.length_map] at c
      have e : (ns.map V.int)[k]? = some (V.int (ns[k]'(by omega))) := by rw [List.getElem?_map, List.getElem?_eq_getElem (by omega)]; rfl
      exact ⟨_, rfl, _, rfl, a, _, _, _, rfl, rfl, hS, atI_nat e, q _⟩
    · exact ifF c (q 0)
theorem scNames : FnScope ["_law_head", "_law_cell", "_law_letters", "_law_size", "_law_more", "_law_many", "_law_names_here", "_law_k", "_law_core", "_law_signs", "_law_j", "_law_step", "_law_name"] ["_law_head", "_law_cell"] (defScope sNames) := ⟨rfl, rfl, rfl, by decide +kernel, rfl, by decide +kernel, by decide +kernel⟩
def spNames : Sp := fun vs H Q _ => ∃ h c : Int, vs = [.int h, .int c] ∧ ∀ (H' : Hp) (p : Addr) (xs : List Str), Same H H' → H p = none → H' p = some (.lst (xs.map V.str)) → 1 ≤ xs.length → xs.length ≤ 60 → (∀ x ∈ xs, IsNm x) → xs.Nodup → Q (.ref p) H'
/-- size, more, many as the law reckons them -/
theorem names_fit (cell : Int) {size more many : Nat} (hs : 1 ≤ size) (h8 : size ≤ 8) (hm : more ≤ 1) (hm8 : more = 1 → size < 8) (h60 : many ≤ 60) (h26 : size = 1 → many ≤ 26) :
    (∀ x ∈ (namesOf cell size more many).map textOf, IsNm x) ∧ ((namesOf cell size more many).map textOf).Nodup ∧ ((namesOf cell size more many).map textOf).length = many := by
  refine ⟨fun x hx => ?_, ?_, ?_⟩
  · obtain ⟨l, hl, rfl⟩ := List.mem_map.mp hx
    unfold namesOf at hl
    obtain ⟨k, _, rfl⟩ := List.mem_map.mp hl
    obtain ⟨a, b, c⟩ := nameOf_ok (cell := cell) (k := k) hs h8 hm8
    refine ⟨by rw [textOf_len]; exact a, by rw [textOf_len]; exact b, fun z hz => letter_in (c z ?_)⟩
    simpa [textOf] using hz
  · rw [List.nodup_iff_pairwise_ne, List.pairwise_map]
    exact (List.nodup_iff_pairwise_ne.mp (namesOf_nodup hs hm h60 h26)).imp fun h e => h (textOf_inj e)
  · rw [List.length_map]; unfold namesOf; rw [List.length_map, List.length_range]
/-- the signs laid so far -/
def sigV (cell : Int) (size core j : Nat) : List V := ((List.range j).map fun j => 97 + (signZ cell size core j).toNat).map fun c => V.str ⟨#[c]⟩
theorem sigV_succ (cell : Int) (size core j : Nat) : sigV cell size core (j + 1) = sigV cell size core j ++ [V.str ⟨#[97 + (signZ cell size core j).toNat]⟩] := by
  unfold sigV
  rw [List.range_succ, List.map_append, List.map_append]; rfl
theorem letter_of {z : Int} (h : 0 ≤ z ∧ z < 26) : atI letters.cps.toList z = some (97 + z.toNat) := by
  obtain ⟨h0, h1⟩ := h
  have := atI_nat (letter_at (n := z.toNat) (by omega))
  rw [Int.toNat_of_nonneg h0] at this
  exact this
theorem letters_len : letters.length ≤ sizeLine := by decide +kernel
theorem step_item {core m : Nat} {z x : Int} (hz : z = (core : Int)) (hm : m ≤ 2) (hx : x = (m : Int)) : atI [V.int z, V.int (z / 26), V.int 0] x = some (V.int (stepN core m : Nat)) := by
  subst hz
  refine at_of (j := m) hx ?_
  unfold stepN
  match m, hm with
  | 0, _ => rfl
  | 1, _ => rfl
  | 2, _ => rfl
theorem ones_sum (l : List Nat) : ((l.map fun c => (⟨#[c]⟩ : Str)).map (·.length)).sum = l.length := by
  rw [List.map_map]
  induction l with
  | nil => rfl
  | cons a r ih =>
    rw [List.map_cons, List.sum_cons, ih, List.length_cons]
    show 1 + r.length = r.length + 1
    omega
theorem sigV_strs (cell : Int) (size core j : Nat) : sigV cell size core j = (((List.range j).map fun j => 97 + (signZ cell size core j).toNat).map fun c => (⟨#[c]⟩ : Str)).map V.str := by
  unfold sigV
  rw [List.map_map, List.map_map, List.map_map]; rfl
theorem namesOf_succ (cell : Int) (size more k : Nat) : (namesOf cell size more (k + 1)).map textOf = (namesOf cell size more k).map textOf ++ [textOf (nameOf cell size more k)] := by
  unfold namesOf
  rw [List.range_succ, List.map_append, List.map_append]; rfl
theorem ok_names {f : Addr} {fd : FuncData} (F : Fun K "_law_names" "_law_names" sNames f fd) (T : Bi mg) : FnOk P w K mg base CX0 1 f fd ["_law_head", "_law_cell"] spNames := by
  refine F.ok scNames (fun vs H Q E h => ?_) (fun cdv A outer s H vs Q E hr h => ?_)
  · obtain ⟨h, c, rfl, _⟩ := h
    rfl
  · obtain ⟨h, c, rfl, k⟩ := h
    refine ⟨_, (pss_cons (ps_set (i := 2) scNames.nd rfl (.inl rfl) pe_str) (pss_cons (ps_set (i := 3) scNames.nd rfl (.inl rfl) (pe_op op_add pe_int (pe_op op_mod (pv 1) pe_int))) (C8.pss_cut (ps_set (i := 4) scNames.nd rfl (.inl rfl) (pe_callTy call_int1 (by rfl) T.int PyProof.Rows.boot_int (pa_cons (pe_and (pe_cmpR op_lt (pv 3) pe_int (nomark _)) (pe_one (pe_cmpR op_eq (pe_op op_mod (pe_op op_fdiv (pv 1) pe_int) pe_int) pe_int (nomark _)))) pa_nil))) (C8.pss_cut (ps_set (i := 5) scNames.nd rfl (.inl rfl) (pe_op op_add pe_int (pe_ix ix_list (pe_lst (pa_cons (pe_op op_mod (pe_op op_fdiv (pv 0) pe_int) pe_int) (pa_cons (pe_op op_mod (pe_op op_fdiv (pv 0) pe_int) pe_int) pa_nil))) (pe_op op_fdiv (pe_op op_mod (pv 0) pe_int) pe_int) (fun _ _ => rfl)))) (C8.pss_cut (ps_if (pt_cmpR op_eq (pv 3) pe_int (nomark _)) (pss_one (ps_set (i := 5) scNames.nd rfl (.inl rfl) (pe_callB (call_min2 rfl) (by rfl) T.min (by decide +kernel) (pa_cons (pv 5) (pa_cons pe_int pa_nil))))) pss_nil) (pss_cons (ps_set (i := 6) scNames.nd rfl (.inl rfl) (pe_lst pa_nil)) (pss_cons (ps_for PassesOwn.never rfl (pi_range1 (by rfl) T.range (pa_cons (pv 5) pa_nil)) (pg_name (i := 7) scNames.nd rfl (.inl rfl)) (pss_cons (ps_set (i := 8) scNames.nd rfl (.inl rfl) (pe_op op_fdiv (pv 7) (pe_op op_add pe_int (pv 4)))) (pss_cons (ps_set (i := 9) scNames.nd rfl (.inl rfl) (pe_lst pa_nil)) (pss_cons (ps_for PassesOwn.never rfl (pi_range1 (by rfl) T.range (pa_cons (pv 3) pa_nil)) (pg_name (i := 10) scNames.nd rfl (.inl rfl)) (pss_cons (ps_set (i := 11) scNames.nd rfl (.inl rfl) (pe_ix ix_list (pe_lst (pa_cons (pv 8) (pa_cons (pe_op op_fdiv (pv 8) pe_int) (pa_cons pe_int pa_nil)))) (pe_callB (call_min2 rfl) (by rfl) T.min (by decide +kernel) (pa_cons (pe_op op_mod (pe_op op_add (pv 10) (pe_op op_fdiv (pv 1) pe_int)) (pv 3)) (pa_cons pe_int pa_nil))) (fun _ _ => rfl))) (pss_one (ps_expr (pe_bm PySem.F.plainAttrs_list PySem.F.slot_list_append PySem.F.type_list_append mt_append (pv 9) (pa_cons (pe_ix ix_str (pv 2) (pe_op op_mod (pe_op op_add (pe_op op_add (pe_op op_fdiv (pv 1) (pe_op op_add (pv 10) pe_int)) (pe_op op_mul (pe_op op_mul (pv 10) (pv 10)) pe_int)) (pv 11)) pe_int) (fun _ _ => rfl)) pa_nil)))))) (pss_cons (ps_set (i := 12) scNames.nd rfl (.inl rfl) (pe_join pe_str (pv 9))) (C8.pss_cut (ps_if (PW.pt (pw_and (pt_cmpR op_eq (pv 4) pe_int (nomark _)) (pw_and1 (pt_cmpR op_eq (pe_op op_mod (pv 7) pe_int) pe_int (nomark _))))) (pss_one (ps_set (i := 12) scNames.nd rfl (.inl rfl) (pe_op op_add_str (pv 12) (pe_ix ix_str (pv 2) (pe_op op_mod (pe_op op_fdiv (pv 1) pe_int) pe_int) (fun _ _ => rfl))))) pss_nil) (pss_one (ps_expr (pe_bm PySem.F.plainAttrs_list PySem.F.slot_list_append PySem.F.type_list_append mt_append (pv 6) (pa_cons (pv 12) pa_nil)))))))))) (pss_one (ps_ret (pv 6)))))))))), ?_⟩
    have d7 : CDiv c 7 := ⟨by decide, by decide⟩
    obtain ⟨size, es, hs1, hs8⟩ : ∃ size : Nat, 1 + c % 8 = (size : Int) ∧ 1 ≤ size ∧ size ≤ 8 := ⟨(1 + c % 8).toNat, by omega, by omega, by omega⟩
    refine ⟨_, rfl, _, _, rfl, rfl, (by show (0 : Int) < 8; decide), _, _, rfl, rfl, ?_⟩
    -- more
    refine ⟨fun σ' H' => ∃ more : Nat, more ≤ 1 ∧ (more = 1 → size < 8) ∧ H = H' ∧ σ' = [some (.int h), some (.int c), some (.str letters), some (.int (size : Int)), some (.int (more : Int)), none, none, none, none, none, none, none, none], ?_, ?_⟩
    · have fin : ∀ k : Bool, (k = true → size < 8) → ∃ more : Nat, more ≤ 1 ∧ (more = 1 → size < 8) ∧ H = H ∧ [some (V.int h), some (.int c), some (.str letters), some (.int (1 + c % 8)), some (.int (if k then 1 else 0)), none, none, none, none, none, none, none, none] = [some (.int h), some (.int c), some (.str letters), some (.int (size : Int)), some (.int (more : Int)), none, none, none, none, none, none, none, none] := fun k hk => by
        rw [es]
        cases k
        · exact ⟨0, by omega, by omega, rfl, rfl⟩
        · exact ⟨1, by omega, fun _ => hk rfl, rfl, rfl⟩
      refine ⟨_, rfl, _, _, rfl, rfl, _, rfl, ?_⟩
      by_cases q : 1 + c % 8 < 8
      · refine ifT q ⟨_, rfl, _, _, rfl, rfl, ⟨by decide, by decide⟩, _, _, rfl, rfl, (by show (0 : Int) < 2; decide), rfl, .inr ⟨_, rfl, ?_⟩⟩
        exact fin _ fun _ => by omega
      · refine ifF q (.inr ⟨_, rfl, ?_⟩)
        exact fin false fun z => by cases z
    · rintro σ' H' ⟨more, hm1, hm8, rfl, rfl⟩
      -- many
      refine ⟨fun σ' H' => ∃ many : Nat, 1 ≤ many ∧ many ≤ 60 ∧ Same H H' ∧ σ' = [some (.int h), some (.int c), some (.str letters), some (.int (size : Int)), some (.int (more : Int)), some (.int (many : Int)), none, none, none, none, none, none, none], ?_, ?_⟩
      · refine ⟨_, rfl, _, _, rfl, rfl, ⟨by decide, by decide⟩, _, _, rfl, rfl, (by show (0 : Int) < 5; decide), _, rfl, _, _, rfl, rfl, ⟨by decide, by decide⟩, _, _, rfl, rfl, (by show (0 : Int) < 60; decide), (by show 2 ≤ sizeLine; decide), fun l nl => ?_⟩
        have fin : ∀ z : Int, 0 ≤ z → z < 60 → ∃ many : Nat, 1 ≤ many ∧ many ≤ 60 ∧ Same H (upd H l (.lst [.int (h / 4 % 5), .int (h / 4 % 60)])) ∧ [some (V.int h), some (.int c), some (.str letters), some (.int (size : Int)), some (.int (more : Int)), some (.int (1 + z)), none, none, none, none, none, none, none] = [some (.int h), some (.int c), some (.str letters), some (.int (size : Int)), some (.int (more : Int)), some (.int (many : Int)), none, none, none, none, none, none, none] := fun z z0 z60 => by
          refine ⟨(1 + z).toNat, by omega, by omega, same_upd nl, ?_⟩
          rw [Int.toNat_of_nonneg (by omega)]
        refine ⟨_, rfl, _, _, rfl, rfl, (by show (0 : Int) < 4; decide), _, _, rfl, rfl, ⟨by decide, by decide⟩, ?_⟩
        have hq : h % 4 / 3 = 0 ∨ h % 4 / 3 = 1 := by omega
        rcases hq with q | q
        · exact ⟨l, _, _, .int (h / 4 % 5), rfl, rfl, SqL.of upd_same, at_of (j := 0) q rfl, _, _, rfl, rfl, fin _ (by omega) (by omega)⟩
        · exact ⟨l, _, _, .int (h / 4 % 60), rfl, rfl, SqL.of upd_same, at_of (j := 1) q rfl, _, _, rfl, rfl, fin _ (by omega) (by omega)⟩
      · rintro σ1 H1 ⟨many0, hk1, hk60, s1, rfl⟩
        refine ⟨fun σ' H' => ∃ many : Nat, 1 ≤ many ∧ many ≤ 60 ∧ (size = 1 → many ≤ 26) ∧ H1 = H' ∧ σ' = [some (.int h), some (.int c), some (.str letters), some (.int (size : Int)), some (.int (more : Int)), some (.int (many : Int)), none, none, none, none, none, none, none], ?_, ?_⟩
        · refine ⟨_, rfl, rfl, _, rfl, ?_⟩
          by_cases q : size = 1
          · refine ifT (by rw [q]; rfl) ⟨_, rfl, _, _, rfl, ?_⟩
            refine ⟨min many0 26, by omega, by omega, fun _ => by omega, rfl, ?_⟩
            have e : (if (26 : Int) < (many0 : Int) then (26 : Int) else (many0 : Int)) = ((min many0 26 : Nat) : Int) := by split <;> omega
            rw [← e]; rfl
          · exact ifF (fun z => q (by have := V.int.inj z; omega)) ⟨many0, hk1, hk60, fun z => absurd z q, rfl, rfl⟩
        · rintro σ2 H2 ⟨many, hm1', hm60, h26, rfl, rfl⟩
          obtain ⟨f1, f2, f3⟩ := names_fit c hs1 hs8 hm1 hm8 hm60 h26
          refine ⟨Nat.zero_le _, fun p np => ?_⟩
          refine ⟨_, rfl, _, rfl, by omega, by omega, for_range (lo := 0) (n := many) (fun i σ H' => ∃ y7 y8 y9 y10 y11 y12 : Option V, σ = [some (.int h), some (.int c), some (.str letters), some (.int (size : Int)), some (.int (more : Int)), some (.int (many : Int)), some (.ref p), y7, y8, y9, y10, y11, y12] ∧
            Lc H1 p (((namesOf c size more i).map textOf).map V.str) H') ⟨none, none, none, none, none, none, rfl, Lc.zero np⟩ ?_ ?_⟩
          · rintro i σ H3 hi ⟨y7, y8, y9, y10, y11, y12, rfl, lp⟩
            obtain ⟨core, hcore⟩ : ∃ core : Nat, core = i / (1 + more) := ⟨_, rfl⟩
            have ec : (0 + (i : Int)) / (1 + (more : Int)) = (core : Int) := by
              rw [hcore, Int.natCast_ediv, Int.zero_add]
              congr 1
            refine ⟨_, rfl, _, rfl, _, _, rfl, rfl, _, _, rfl, rfl, ⟨by omega, by omega⟩, ?_⟩
            refine ⟨Nat.zero_le _, fun g ng => ?_⟩
            refine ⟨_, rfl, _, rfl, by omega, by omega, for_range (lo := 0) (n := size) (fun j σ H' => ∃ y10 y11 y12 : Option V, σ = [some (.int h), some (.int c), some (.str letters), some (.int (size : Int)), some (.int (more : Int)), some (.int (many : Int)), some (.ref p), some (.int (0 + (i : Int))), some (.int ((0 + (i : Int)) / (1 + (more : Int)))), some (.ref g), y10, y11, y12] ∧
              Lc H3 g (sigV c size core j) H') ⟨_, _, _, rfl, Lc.zero ng⟩ ?_ ?_⟩
            · rintro j σ H4 hj ⟨y10, y11, y12, rfl, lg⟩
              refine ⟨_, rfl, _, rfl, _, _, rfl, rfl, ⟨by decide, by decide⟩, (by show 3 ≤ sizeLine; decide), fun l nl => ?_⟩
              have s5 : Same H4 (upd H4 l (.lst [.int ((0 + (i : Int)) / (1 + (more : Int))), .int (((0 + (i : Int)) / (1 + (more : Int))) / 26), .int 0])) := same_upd nl
              have ht : turnN c size j ≤ 2 := Nat.min_le_right _ _
              have hx : (if (2 : Int) < (0 + (j : Int) + c / 16) % (size : Int) then (2 : Int) else (0 + (j : Int) + c / 16) % (size : Int)) = (turnN c size j : Int) := by
                unfold turnN
                rw [Int.zero_add]
                have a := Int.emod_nonneg ((j : Int) + c / 16) (show (size : Int) ≠ 0 by omega)
                generalize ((j : Int) + c / 16) % (size : Int) = q at a ⊢
                split <;> omega
              refine ⟨_, rfl, _, rfl, _, _, rfl, rfl, ⟨by decide, by decide⟩, _, _, rfl, rfl, _, rfl, _, _, rfl, rfl, (by omega), _, _, rfl, l, _, _, _, rfl, rfl, SqL.of upd_same, step_item ec ht hx, ?_⟩
              -- the sign
              have ez : (c / (0 + (j : Int) + 2) + (0 + (j : Int)) * (0 + (j : Int)) * 5 + (stepN core (turnN c size j) : Nat)) % 26 = signZ c size core j := by
                unfold signZ
                rw [Int.zero_add]
              have lg5 := (lg.go s5).at_
              refine ⟨_, rfl, .inl ⟨rfl, _, SqL.of lg5⟩, _, rfl, _, rfl, _, rfl, _, _, rfl, rfl, _, _, rfl, rfl, ⟨by omega, by omega⟩, _, rfl, _, rfl, _, _, rfl, rfl, .inl ⟨by omega, by omega⟩, _, _, rfl, rfl, .inr ⟨by decide, by decide⟩, _, _, rfl, rfl, _, rfl, _, _, rfl, rfl, _, _, rfl, rfl, (by show (0 : Int) < 26; decide), ?_⟩
              refine ⟨letters, _, 97 + ((c / (0 + (j : Int) + 2) + (0 + (j : Int)) * (0 + (j : Int)) * 5 + (stepN core (turnN c size j) : Nat)) % 26).toNat, rfl, rfl, letters_len, ?_, g, _, _, rfl, rfl, lg5, ?_, ?_⟩
              · exact letter_of (z := (c / (0 + (j : Int) + 2) + (0 + (j : Int)) * (0 + (j : Int)) * 5 + (stepN core (turnN c size j) : Nat)) % 26) (by rw [ez]; exact signZ_range c size core j)
              · unfold sigV
                rw [List.length_map, List.length_map, List.length_range]
                exact small1000 (by omega)
              · refine ⟨_, _, _, rfl, ?_⟩
                rw [sigV_succ, ← ez]
                exact lg.more ng s5 _
            · rintro σ H4 ⟨y10, y11, y12, rfl, lg⟩
              -- the name
              have eg := lg.at_
              rw [sigV_strs] at eg
              refine ⟨⟨_, rfl⟩, _, rfl, _, g, _, rfl, rfl, .inl (SqL.of eg), ?_, ?_⟩
              · rw [ones_sum, List.length_map, List.length_map, List.length_range]
                show size + size * (Str.length ("" : Str)) ≤ 16777216
                rw [show Str.length ("" : Str) = 0 by decide +kernel]
                omega
              rw [join_ones]
              have es' : (List.range size).map (fun j => 97 + (signZ c size core j).toNat) = signsOf c size core := rfl
              rw [es']
              refine ⟨fun σ' H' => H4 = H' ∧ ∃ y10 y11 : Option V, σ' = [some (.int h), some (.int c), some (.str letters), some (.int (size : Int)), some (.int (more : Int)), some (.int (many : Int)), some (.ref p), some (.int (0 + (i : Int))), some (.int ((0 + (i : Int)) / (1 + (more : Int)))), some (.ref g), y10, y11, some (.str (textOf (nameOf c size more i)))], ?_, ?_⟩
              · refine ⟨_, rfl, rfl, _, rfl, ?_⟩
                have nm : nameOf c size more i = signsOf c size core ++ moreOf c more i := by unfold nameOf; rw [hcore]
                by_cases q1 : more = 1
                · refine ifT (by rw [q1]; rfl) ⟨_, rfl, _, _, rfl, rfl, (by show (0 : Int) < 2; decide), rfl, _, rfl, ?_⟩
                  by_cases q2 : i % 2 = 1
                  · have hz : 0 ≤ c / 7 % 26 ∧ c / 7 % 26 < 26 := ⟨Int.emod_nonneg _ (by decide), Int.emod_lt_of_pos _ (by decide)⟩
                    refine ifT (by show V.int _ = V.int _; congr 1; omega) ⟨_, rfl, _, rfl, _, rfl, _, _, rfl, rfl, d7, _, _, rfl, rfl, (by show (0 : Int) < 26; decide), letters, _, _, rfl, rfl, letters_len, letter_of hz, _, _, rfl, rfl, ?_, rfl, y10, y11, ?_⟩
                    · rw [textOf_len, signsOf_len]
                      show size + 1 ≤ sizeLine
                      rw [sizeLine_eq]; omega
                    · have e1 : moreOf c more i = [97 + (c / 7 % 26).toNat] := by unfold moreOf; rw [if_pos ⟨q1, q2⟩]
                      rw [nm, e1, ← textOf_app]; rfl
                  · refine ifF (fun z => q2 (by have := V.int.inj z; omega)) ⟨rfl, y10, y11, ?_⟩
                    have e1 : moreOf c more i = [] := by unfold moreOf; rw [if_neg fun z => q2 z.2]
                    rw [nm, e1, List.append_nil]; rfl
                · refine ifF (fun z => q1 (by have := V.int.inj z; omega)) (iteF ⟨rfl, y10, y11, ?_⟩)
                  have e1 : moreOf c more i = [] := by unfold moreOf; rw [if_neg fun z => q1 z.1]
                  rw [nm, e1, List.append_nil]; rfl
              · rintro σ' H' ⟨rfl, y10', y11', rfl⟩
                have lp4 := (lp.go lg.same).at_
                refine ⟨_, rfl, .inl ⟨rfl, _, SqL.of lp4⟩, _, rfl, p, _, _, rfl, rfl, lp4, ?_, ?_⟩
                · unfold namesOf
                  rw [List.length_map, List.length_map, List.length_map, List.length_range]
                  exact small1000 (by omega)
                · refine ⟨_, _, _, _, _, _, rfl, ?_⟩
                  rw [namesOf_succ, List.map_append]
                  exact lp.more np lg.same _
          · rintro σ H3 ⟨y7, y8, y9, y10, y11, y12, rfl, lp⟩
            exact ⟨_, rfl, k H3 p _ (s1.trans lp.same) (s1.free np) lp.at_ (by rw [f3]; exact hm1') (by rw [f3]; exact hm60) f1 f2⟩
end
end Sm

namespace Sm
open PySem L2
/-- a ** b of a great number -/
def CPowB (i j : Int) : Prop := 0 ≤ j ∧ (Builtin.Int.intBits i : Int) * j ≤ 2 ^ 27
theorem op_powB {X : Cx} : OpR X (binaryOp .Pow) (rI CPowB fun i j => .int (i ^ j.toNat)) := opI fun _ _ _ _ _ _ _ hc q => PyProof.Rows.pow_int hc.1 hc.2 q
section
variable {P : Program} {w : World} {K : PySem.W.Frag} {mg : Str → Option Value} {base : Heap}
theorem scGreat : FnScope ["_law_cell", "_law_great_here"] ["_law_cell"] (defScope sGreat) := ⟨rfl, rfl, rfl, by decide +kernel, rfl, by decide +kernel, by decide +kernel⟩
def spGreat : Sp := fun vs H Q _ => ∃ c : Int, vs = [.int c] ∧ ∀ z : Int, Q (.int z) H
theorem great_pos : (0 : Int) < 2 * ((10 : Int) ^ (60 : Int).toNat) ^ (8 : Int).toNat + 1 := by decide +kernel
theorem great_pow : CPowB ((10 : Int) ^ (60 : Int).toNat) 8 := by unfold CPowB; decide +kernel
theorem ok_great {f : Addr} {fd : FuncData} (F : Fun K "_law_great" "_law_great" sGreat f fd) : FnOk P w K mg base CX0 1 f fd ["_law_cell"] spGreat := by
  refine F.ok scGreat (fun vs H Q E h => ?_) (fun cdv A outer s H vs Q E hr h => ?_)
  · obtain ⟨c, rfl, _⟩ := h
    rfl
  · obtain ⟨c, rfl, k⟩ := h
    refine ⟨_, pss_cons (ps_set (i := 1) scGreat.nd rfl (.inl rfl) (pe_op op_powB (pe_op op_pow pe_int pe_int) pe_int))
      (pss_one (ps_ret (pe_op op_sub (pe_op op_mod (pv 0) (pe_op op_add (pe_op op_mul pe_int (pv 1)) pe_int)) (pv 1)))), ?_⟩
    refine ⟨_, _, rfl, rfl, ⟨by decide, by decide, by decide⟩, _, _, rfl, rfl, great_pow, ?_⟩
    exact ⟨_, rfl, _, rfl, _, _, rfl, rfl, .inl ⟨by decide, by decide⟩, _, _, rfl, rfl, _, _, rfl, rfl, great_pos, _, rfl, _, _, rfl, rfl, k _⟩
theorem scHas : FnScope ["_law_over_here", "_law_place"] ["_law_over_here", "_law_place"] (defScope sHas) := ⟨rfl, rfl, rfl, by decide +kernel, rfl, by decide +kernel, by decide +kernel⟩
def spHas (K : PySem.W.Frag) : Sp := fun vs H Q _ => ∃ (o : Addr) (lo be : Option Int) (q : Int), vs = [.ref o, .int q] ∧ SqT K H o [oV lo, oV be] ∧ Q (.bl (decide (inS lo be q))) H
theorem ok_has {f : Addr} {fd : FuncData} (F : Fun K "_law_has" "_law_has" sHas f fd) : FnOk P w K mg base CX0 1 f fd ["_law_over_here", "_law_place"] (spHas K) := by
  refine F.ok scHas (fun vs H Q E h => ?_) (fun cdv A outer s H vs Q E hr h => ?_)
  · obtain ⟨o, lo, be, q, rfl, _⟩ := h
    rfl
  · obtain ⟨o, lo, be, q, rfl, ho, k⟩ := h
    refine ⟨_, pss_one (ps_ret (pe_and (pe_or (pe_cmpR op_isN (pe_ix ix_tup (pv 0) pe_int (fun _ _ => rfl)) pe_non (nomark _)) (pe_one (pe_cmpR op_le (pe_ix ix_tup (pv 0) pe_int (fun _ _ => rfl)) (pv 1) (nomark _))))
      (pe_one (pe_or (pe_cmpR op_isN (pe_ix ix_tup (pv 0) pe_int (fun _ _ => rfl)) pe_non (nomark _)) (pe_one (pe_cmpR op_lt (pv 1) (pe_ix ix_tup (pv 0) pe_int (fun _ _ => rfl)) (nomark _))))))), ?_⟩
    have i0 : atI ([oV lo, oV be] : List V) 0 = some (oV lo) := at_of (j := 0) rfl rfl
    have i1 : atI ([oV lo, oV be] : List V) 1 = some (oV be) := at_of (j := 1) rfl rfl
    cases lo with
    | none =>
      refine ⟨_, rfl, o, _, _, _, rfl, rfl, ho, i0, rfl, _, rfl, ifT rfl ⟨_, rfl, iteT ?_⟩⟩
      cases be with
      | none =>
        rw [decide_eq_true (show inS none none q from ⟨nofun, nofun⟩)] at k
        exact ⟨_, rfl, o, _, _, _, rfl, rfl, ho, i1, rfl, _, rfl, ifT rfl k⟩
      | some b =>
        have e : decide (inS none (some b) q) = decide (q < b) := decide_eq_decide.mpr ⟨fun z => z.2 b rfl, fun z => ⟨nofun, fun _ e => by cases e; exact z⟩⟩
        rw [e] at k
        exact ⟨_, rfl, o, _, _, _, rfl, rfl, ho, i1, rfl, _, rfl, ifF nofun ⟨_, rfl, _, rfl, o, _, _, _, rfl, rfl, ho, i1, _, _, rfl, rfl, k⟩⟩
    | some l =>
      refine ⟨_, rfl, o, _, _, _, rfl, rfl, ho, i0, rfl, _, rfl, ifF nofun ⟨_, rfl, o, _, _, _, rfl, rfl, ho, i0, _, rfl, _, _, rfl, rfl, _, rfl, ?_⟩⟩
      by_cases hl : l ≤ q
      · refine ifT hl ?_
        cases be with
        | none =>
          rw [decide_eq_true (show inS (some l) none q from ⟨fun _ e => by cases e; exact hl, nofun⟩)] at k
          exact ⟨_, rfl, o, _, _, _, rfl, rfl, ho, i1, rfl, _, rfl, ifT rfl k⟩
        | some b =>
          have e : decide (inS (some l) (some b) q) = decide (q < b) := decide_eq_decide.mpr ⟨fun z => z.2 b rfl, fun z => ⟨fun _ e => by cases e; exact hl, fun _ e => by cases e; exact z⟩⟩
          rw [e] at k
          exact ⟨_, rfl, o, _, _, _, rfl, rfl, ho, i1, rfl, _, rfl, ifF nofun ⟨_, rfl, _, rfl, o, _, _, _, rfl, rfl, ho, i1, _, _, rfl, rfl, k⟩⟩
      · rw [decide_eq_false (fun z : inS (some l) be q => hl (z.1 l rfl))] at k
        exact ifF hl k
/-! ### _law_over -/
theorem atI_int {es : List Int} {x : Int} (h0 : 0 ≤ x) (h1 : x < (es.length : Int)) : ∃ z, atI (es.map V.int) x = some (V.int z) := by
  have hl : x.toNat < es.length := by omega
  refine ⟨es[x.toNat], at_of (j := x.toNat) (by omega) ?_⟩
  rw [List.getElem?_map, List.getElem?_eq_getElem hl]; rfl
theorem emod_in {a b : Int} (h : 0 < b) : 0 ≤ a % b ∧ a % b < b := ⟨Int.emod_nonneg _ (by omega), Int.emod_lt_of_pos _ h⟩
theorem scOver : FnScope ["_law_cell", "_law_k", "_law_ends", "_law_mixed", "_law_more", "_law_low", "_law_behind"] ["_law_cell", "_law_k", "_law_ends"] (defScope sOver) := ⟨rfl, rfl, rfl, by decide +kernel, rfl, by decide +kernel, by decide +kernel⟩
def spOver : Sp := fun vs H Q _ => ∃ (c : Int) (k : Nat) (e : Addr) (es : List Int), vs = [.int c, .int (k : Int), .ref e] ∧ k ≤ 1000 ∧ H e = some (.lst (es.map V.int)) ∧ es ≠ [] ∧ es.length ≤ 1000 ∧
  ∀ (H' : Hp) (t : Addr) (l b : Int) (lo be : Option Int), l < b → (lo = none ∨ lo = some l) → (be = none ∨ be = some b) → H' e = some (.lst ((es ++ [l, b]).map V.int)) → H t = none → H' t = some (.tup [oV lo, oV be]) →
    (∀ a o, H a = some o → a ≠ e → H' a = some o) → Q (.ref t) H'
theorem ok_over {f : Addr} {fd : FuncData} (F : Fun K "_law_over" "_law_over" sOver f fd) (T : Bi mg) (cG : Cal P w K mg base 1 "_law_great" spGreat) : FnOk P w K mg base CX0 2 f fd ["_law_cell", "_law_k", "_law_ends"] spOver := by
  refine F.ok scOver (fun vs H Q E h => ?_) (fun cdv A outer s H vs Q E hr h => ?_)
  · obtain ⟨c, k, e, es, rfl, _⟩ := h
    rfl
  · obtain ⟨c, kk, e, es, rfl, hk, he, hne, hlen, k⟩ := h
    refine ⟨_, (pss_cons (ps_set (i := 3) scOver.nd rfl (.inl rfl) (pe_op op_mod (pe_op op_add (pe_op op_add (pe_op op_mul (pv 0) pe_int) (pe_op op_mul (pe_op op_mul (pv 1) (pv 1)) pe_int)) pe_int) pe_int)) (pss_cons (ps_set (i := 3) scOver.nd rfl (.inl rfl) (pe_op op_mod (pe_op op_mul (pv 3) (pv 3)) pe_int)) (pss_cons (ps_set (i := 4) scOver.nd rfl (.inl rfl) (pe_op op_mod (pe_op op_add (pe_op op_add (pe_op op_mul (pv 0) pe_int) (pe_op op_mul (pe_op op_mul (pv 1) (pv 1)) pe_int)) pe_int) pe_int)) (C8.pss_cut (ps_set (i := 4) scOver.nd rfl (.inl rfl) (pe_op op_mod (pe_op op_mul (pv 4) (pv 3)) pe_int)) (pss_cons (ps_set (i := 5) scOver.nd rfl (.inl rfl) (pe_op op_sub (pe_op op_mod (pe_op op_fdiv (pv 3) pe_int) pe_int) pe_int)) (C8.pss_cut (ps_if (PW.pt (pw_and (pt_cmpR op_eq (pe_op op_mod (pv 3) pe_int) pe_int (nomark _)) (pw_and1 (pt_cmpR (op_neD hr.units) (pv 2) (pe_lst pa_nil) (nomark _))))) (pss_one (ps_set (i := 5) scOver.nd rfl (.inl rfl) (pe_op op_sub (pe_op op_add (pe_ix ix_list (pv 2) (pe_op op_mod (pe_op op_fdiv (pv 3) pe_int) (pe_callB call_len_seq (by rfl) T.len PySem.boot_len (pa_cons (pv 2) pa_nil))) (fun _ _ => rfl)) (pe_op op_mod (pe_op op_fdiv (pv 3) pe_int) pe_int)) pe_int))) pss_nil) (C8.pss_cut (ps_if (pt_cmpR op_eq (pe_op op_mod (pv 3) pe_int) pe_int (nomark _)) (pss_one (ps_set (i := 5) scOver.nd rfl (.inl rfl) (pe_ix ix_list (pe_lst (pa_cons (pe_op op_sub (pe_op op_mod (pv 0) (pe_op op_add (pe_op op_mul pe_int (pe_op op_pow pe_int pe_int)) pe_int)) (pe_op op_pow pe_int pe_int)) (pa_cons (pcal cG hr (by decide) (by rfl) (pa_cons (pv 0) pa_nil)) pa_nil))) (pe_op op_mod (pe_op op_fdiv (pv 3) pe_int) pe_int) (fun _ _ => rfl)))) pss_nil) (C8.pss_cut (ps_set (i := 6) scOver.nd rfl (.inl rfl) (pe_op op_add (pe_op op_add (pv 5) pe_int) (pe_ix ix_list (pe_lst (pa_cons (pe_op op_mod (pe_op op_fdiv (pv 4) pe_int) pe_int) (pa_cons (pe_op op_mod (pe_op op_fdiv (pv 4) pe_int) pe_int) (pa_cons (pe_op op_mod (pe_op op_mul (pv 0) pe_int) (pe_op op_pow pe_int pe_int)) (pa_cons pe_int pa_nil))))) (pe_op op_mod (pv 4) pe_int) (fun _ _ => rfl)))) (C8.pss_cut (ps_if (PW.pt (pw_and (pt_cmpR op_eq (pe_op op_mod (pv 4) pe_int) pe_int (nomark _)) (pw_and1 (pt_cmpR (op_neD hr.units) (pv 2) (pe_lst pa_nil) (nomark _))))) (pss_one (ps_set (i := 6) scOver.nd rfl (.inl rfl) (pe_callB (call_max2 rfl) (by rfl) T.max (by decide +kernel) (pa_cons (pv 6) (pa_cons (pe_ix ix_list (pv 2) (pe_op op_mod (pe_op op_fdiv (pv 4) pe_int) (pe_callB call_len_seq (by rfl) T.len PySem.boot_len (pa_cons (pv 2) pa_nil))) (fun _ _ => rfl)) pa_nil))))) pss_nil) (pss_cons (ps_expr (pe_bm PySem.F.plainAttrs_list PySem.F.slot_list_append PySem.F.type_list_append mt_append (pv 2) (pa_cons (pv 5) pa_nil))) (pss_cons (ps_expr (pe_bm PySem.F.plainAttrs_list PySem.F.slot_list_append PySem.F.type_list_append mt_append (pv 2) (pa_cons (pv 6) pa_nil))) (C8.pss_cut (ps_if (pt_cmpR op_lt (pe_op op_mod (pe_op op_fdiv (pv 4) pe_int) pe_int) pe_int (nomark _)) (pss_one (ps_set (i := 5) scOver.nd rfl (.inl rfl) pe_non)) pss_nil) (C8.pss_cut (ps_if (pt_cmpR op_in_seq (pe_op op_mod (pe_op op_fdiv (pv 4) pe_int) pe_int) (pe_tup (pa_cons pe_int (pa_cons pe_int pa_nil))) (by rfl)) (pss_one (ps_set (i := 6) scOver.nd rfl (.inl rfl) pe_non)) pss_nil) (pss_one (ps_ret (pe_tup (pa_cons (pv 5) (pa_cons (pv 6) pa_nil)))))))))))))))))), ?_⟩
    have hle : 0 < es.length := List.length_pos_iff.mpr hne
    have hlm : (es.map V.int).length = es.length := List.length_map _
    have hemp : (es.map V.int).isEmpty = false := by cases es with | nil => exact absurd rfl hne | cons _ _ => rfl
    have nice : ∀ (H' : Hp) (x : V), x ∈ es.map V.int → Nice K H' x := fun H' x hx => by
      obtain ⟨z, _, rfl⟩ := List.mem_map.mp hx
      exact nice_int z
    -- mixed, more
    refine ⟨_, rfl, _, _, rfl, rfl, .inr ⟨by decide, by decide⟩, _, rfl, _, rfl, _, _, rfl, rfl, .inl ⟨by omega, by omega⟩, _, _, rfl, rfl, .inr ⟨by decide, by decide⟩, _, _, rfl, rfl, _, _, rfl, rfl, _, _, rfl, rfl, (by show (0 : Int) < 2147483647; decide), ?_⟩
    have b1 := emod_in (a := c * 48271 + (kk : Int) * kk * 69621 + 7919) (b := 2147483647) (by decide)
    refine ⟨_, rfl, _, rfl, _, _, rfl, rfl, .inl ⟨by omega, by omega⟩, _, _, rfl, rfl, (by show (0 : Int) < 2147483563; decide), ?_⟩
    have b2 := emod_in (a := (c * 48271 + (kk : Int) * kk * 69621 + 7919) % 2147483647 * ((c * 48271 + (kk : Int) * kk * 69621 + 7919) % 2147483647)) (b := 2147483563) (by decide)
    refine ⟨_, rfl, _, _, rfl, rfl, .inr ⟨by decide, by decide⟩, _, rfl, _, rfl, _, _, rfl, rfl, .inl ⟨by omega, by omega⟩, _, _, rfl, rfl, .inr ⟨by decide, by decide⟩, _, _, rfl, rfl, _, _, rfl, rfl, _, _, rfl, rfl, (by show (0 : Int) < 2147483629; decide), ?_⟩
    refine ⟨fun σ' H' => ∃ x m : Int, 0 ≤ x ∧ 0 ≤ m ∧ H = H' ∧ σ' = [some (.int c), some (.int (kk : Int)), some (.ref e), some (.int x), some (.int m), none, none], ?_, ?_⟩
    · refine ⟨_, rfl, _, rfl, _, _, rfl, rfl, .inr ⟨by omega, by omega⟩, _, _, rfl, rfl, (by show (0 : Int) < 2147483549; decide), ?_⟩
      exact ⟨_, _, b2.1, (emod_in (by decide)).1, rfl, rfl⟩
    rintro σ1 H1 ⟨x, m, hx, hm, rfl, rfl⟩
    -- low
    refine ⟨_, rfl, _, _, rfl, rfl, ⟨by decide, by decide⟩, _, _, rfl, rfl, (by show (0 : Int) < 61; decide), _, _, rfl, rfl, ?_⟩
    refine ⟨fun σ' H' => ∃ l : Int, Same H H' ∧ σ' = [some (.int c), some (.int (kk : Int)), some (.ref e), some (.int x), some (.int m), some (.int l), none], ?_, ?_⟩
    · refine ⟨_, rfl, _, _, rfl, rfl, (by show (0 : Int) < 4; decide), rfl, _, rfl, ?_⟩
      refine ite2 (fun _ => ?_) (fun _ => iteF ⟨_, Same.refl _, rfl⟩)
      refine ⟨_, rfl, Nat.zero_le _, fun n hn => ?_⟩
      have s2 := same_upd (o := .lst []) hn
      refine rNe_nil (nice _) (SqL.of (s2 _ _ he)) (SqL.of upd_same) ⟨_, rfl, ?_⟩
      rw [hemp]
      refine iteT ?_
      have bi := emod_in (a := x / 4) (b := ((es.map V.int).length : Int)) (by omega)
      obtain ⟨z, hz⟩ := atI_int (es := es) bi.1 (by rw [← hlm]; exact bi.2)
      exact ⟨_, rfl, _, rfl, _, _, rfl, rfl, ⟨by decide, by decide⟩, _, rfl, e, _, rfl, .inl (SqL.of (s2 _ _ he)), _, _, rfl, rfl, (by omega), e, _, _, _, rfl, rfl, SqL.of (s2 _ _ he), hz, _, rfl, _, _, rfl, rfl, ⟨by decide, by decide⟩, _, _, rfl, rfl, (by show (0 : Int) < 3; decide), _, _, rfl, rfl, _, _, rfl, rfl, _, s2, rfl⟩
    rintro σ2 H2 ⟨l1, s2, rfl⟩
    refine ⟨fun σ' H' => ∃ l : Int, Same H H' ∧ σ' = [some (.int c), some (.int (kk : Int)), some (.ref e), some (.int x), some (.int m), some (.int l), none], ?_, ?_⟩
    · refine ⟨_, rfl, _, _, rfl, rfl, (by show (0 : Int) < 4; decide), rfl, _, rfl, ?_⟩
      refine ite2 (fun _ => ?_) (fun _ => ⟨_, s2, rfl⟩)
      refine ⟨_, rfl, _, _, rfl, rfl, ⟨by decide, by decide, by decide⟩, _, _, rfl, rfl, .inl ⟨by decide, by decide⟩, _, _, rfl, rfl, _, _, rfl, rfl, (by show (0 : Int) < 2 * 10 ^ (60 : Int).toNat + 1; decide +kernel), _, _, rfl, rfl, ⟨by decide, by decide, by decide⟩, _, _, rfl, rfl, _, rfl, c, rfl, fun z2 => ⟨(by show 2 ≤ sizeLine; decide), fun n hn => ?_⟩⟩
      have s3 := s2.trans (same_upd (o := .lst [.int (c % (2 * 10 ^ (60 : Int).toNat + 1) - 10 ^ (60 : Int).toNat), .int z2]) hn)
      refine ⟨_, rfl, _, _, rfl, rfl, ⟨by decide, by decide⟩, _, _, rfl, rfl, (by show (0 : Int) < 2; decide), ?_⟩
      have hq : x / 4 % 2 = 0 ∨ x / 4 % 2 = 1 := by omega
      rcases hq with q | q
      · exact ⟨n, _, _, _, rfl, rfl, SqL.of upd_same, at_of (j := 0) q rfl, _, s3, rfl⟩
      · exact ⟨n, _, _, _, rfl, rfl, SqL.of upd_same, at_of (j := 1) q rfl, _, s3, rfl⟩
    rintro σ3 H3 ⟨l, s3, rfl⟩
    -- behind
    refine ⟨fun σ' H' => ∃ b : Int, l < b ∧ Same H H' ∧ σ' = [some (.int c), some (.int (kk : Int)), some (.ref e), some (.int x), some (.int m), some (.int l), some (.int b)], ?_, ?_⟩
    · refine ⟨_, rfl, _, _, rfl, rfl, _, rfl, _, _, rfl, rfl, ⟨by decide, by decide⟩, _, _, rfl, rfl, (by show (0 : Int) < 3; decide), _, rfl, _, _, rfl, rfl, ⟨by decide, by decide⟩, _, _, rfl, rfl, (by show (0 : Int) < 40; decide), _, rfl, _, _, rfl, rfl, .inr ⟨by decide, by decide⟩, _, _, rfl, rfl, ⟨by decide, by decide, by decide⟩, _, _, rfl, rfl, (by show (0 : Int) < 10 ^ (60 : Int).toNat; decide +kernel), (by show 4 ≤ sizeLine; decide), fun n hn => ?_⟩
      have s4 := s3.trans (same_upd (o := .lst [.int (m / 4 % 3), .int (m / 4 % 40), .int (c * 69621 % 10 ^ (60 : Int).toNat), .int 0]) hn)
      have g0 := emod_in (a := c * 69621) (b := (10 : Int) ^ (60 : Int).toNat) (by decide +kernel)
      refine ⟨_, rfl, _, _, rfl, rfl, (by show (0 : Int) < 4; decide), ?_⟩
      have hq : m % 4 = 0 ∨ m % 4 = 1 ∨ m % 4 = 2 ∨ m % 4 = 3 := by omega
      rcases hq with q | q | q | q
      · exact ⟨n, _, _, _, rfl, rfl, SqL.of upd_same, at_of (j := 0) q rfl, _, _, rfl, rfl, _, by show l < l + 1 + m / 4 % 3; omega, s4, rfl⟩
      · exact ⟨n, _, _, _, rfl, rfl, SqL.of upd_same, at_of (j := 1) q rfl, _, _, rfl, rfl, _, by show l < l + 1 + m / 4 % 40; omega, s4, rfl⟩
      · refine ⟨n, _, _, _, rfl, rfl, SqL.of upd_same, at_of (j := 2) q rfl, _, _, rfl, rfl, _, ?_, s4, rfl⟩
        show l < l + 1 + c * 69621 % 10 ^ (60 : Int).toNat
        have := g0.1
        generalize c * 69621 % 10 ^ (60 : Int).toNat = y at this ⊢
        omega
      · exact ⟨n, _, _, _, rfl, rfl, SqL.of upd_same, at_of (j := 3) q rfl, _, _, rfl, rfl, _, by show l < l + 1 + 0; omega, s4, rfl⟩
    rintro σ4 H4 ⟨b1', hb1, s4, rfl⟩
    refine ⟨fun σ' H' => ∃ b : Int, l < b ∧ Same H H' ∧ σ' = [some (.int c), some (.int (kk : Int)), some (.ref e), some (.int x), some (.int m), some (.int l), some (.int b)], ?_, ?_⟩
    · refine ⟨_, rfl, _, _, rfl, rfl, (by show (0 : Int) < 4; decide), rfl, _, rfl, ?_⟩
      refine ite2 (fun _ => ?_) (fun _ => iteF ⟨_, hb1, s4, rfl⟩)
      refine ⟨_, rfl, Nat.zero_le _, fun n hn => ?_⟩
      have s5 := s4.trans (same_upd (o := .lst []) hn)
      refine rNe_nil (nice _) (SqL.of (s5 _ _ he)) (SqL.of upd_same) ⟨_, rfl, ?_⟩
      rw [hemp]
      refine iteT ?_
      have bi := emod_in (a := m / 4) (b := ((es.map V.int).length : Int)) (by omega)
      obtain ⟨z, hz⟩ := atI_int (es := es) bi.1 (by rw [← hlm]; exact bi.2)
      refine ⟨_, rfl, _, rfl, _, rfl, _, _, rfl, rfl, ⟨by decide, by decide⟩, _, rfl, e, _, rfl, .inl (SqL.of (s5 _ _ he)), _, _, rfl, rfl, (by omega), e, _, _, _, rfl, rfl, SqL.of (s5 _ _ he), hz, _, _, rfl, _, ?_, s5, rfl⟩
      show l < if z > b1' then z else b1'
      split <;> omega
    rintro σ5 H5 ⟨b, hb, s5, rfl⟩
    -- the ends
    have he5 := s5 _ _ he
    refine ⟨_, rfl, .inl ⟨rfl, _, SqL.of he5⟩, _, rfl, e, _, _, rfl, rfl, he5, small1000 (by omega), ?_⟩
    have e6 : (upd H5 e (.lst (es.map V.int ++ [V.int l]))) e = some (.lst (es.map V.int ++ [V.int l])) := upd_same
    refine ⟨_, rfl, .inl ⟨rfl, _, SqL.of e6⟩, _, rfl, e, _, _, rfl, rfl, e6, ?_, ?_⟩
    · rw [List.length_append, hlm, List.length_singleton, sizeLine_eq]; omega
    have e7 : (upd (upd H5 e (.lst (es.map V.int ++ [V.int l]))) e (.lst (es.map V.int ++ [V.int l] ++ [V.int b]))) e = some (.lst ((es ++ [l, b]).map V.int)) := by
      rw [upd_same, List.map_append, List.append_assoc]; rfl
    have s7 : ∀ a o, H a = some o → a ≠ e → (upd (upd H5 e (.lst (es.map V.int ++ [V.int l]))) e (.lst (es.map V.int ++ [V.int l] ++ [V.int b]))) a = some o := fun a o q hq => by
      rw [upd_ne hq, upd_ne hq]; exact s5 _ _ q
    generalize upd (upd H5 e (.lst (es.map V.int ++ [V.int l]))) e (.lst (es.map V.int ++ [V.int l] ++ [V.int b])) = H7 at e7 s7 ⊢
    refine ⟨fun σ' H' => ∃ lo : Option Int, (lo = none ∨ lo = some l) ∧ H7 = H' ∧ σ' = [some (.int c), some (.int (kk : Int)), some (.ref e), some (.int x), some (.int m), some (oV lo), some (.int b)], ?_, ?_⟩
    · refine ⟨_, rfl, _, _, rfl, rfl, ⟨by decide, by decide⟩, _, _, rfl, rfl, (by show (0 : Int) < 12; decide), _, _, rfl, rfl, _, rfl, ?_⟩
      exact ite2 (fun _ => ⟨none, .inl rfl, rfl, rfl⟩) (fun _ => ⟨some l, .inr rfl, rfl, rfl⟩)
    rintro σ8 H8 ⟨lo, hlo, rfl, rfl⟩
    refine ⟨fun σ' H' => ∃ be : Option Int, (be = none ∨ be = some b) ∧ Same H7 H' ∧ σ' = [some (.int c), some (.int (kk : Int)), some (.ref e), some (.int x), some (.int m), some (oV lo), some (oV be)], ?_, ?_⟩
    · refine ⟨_, rfl, _, _, rfl, rfl, ⟨by decide, by decide⟩, _, _, rfl, rfl, (by show (0 : Int) < 12; decide), (by show 2 ≤ sizeLine; decide), fun n hn => ?_⟩
      refine ⟨n, _, rfl, .inr (SqT.of upd_same), rfl, rfl, _, rfl, ?_⟩
      exact ifB (fun _ => ⟨none, .inl rfl, same_upd hn, rfl⟩) (fun _ => ⟨some b, .inr rfl, same_upd hn, rfl⟩)
    rintro σ9 H9 ⟨be, hbe, s9, rfl⟩
    refine ⟨_, rfl, _, rfl, (by show 2 ≤ sizeLine; decide), fun t nt => ?_⟩
    have s10 := s9.trans (same_upd (o := .tup [oV lo, oV be]) nt)
    refine k _ t l b lo be hb hlo hbe (s10 _ _ e7) ?_ upd_same fun a o q hq => s10 _ _ (s7 a o q hq)
    -- t was free
    cases q : H t with
    | none => rfl
    | some o =>
      exfalso
      by_cases hte : t = e
      · rw [hte, s9 _ _ e7] at nt; cases nt
      · rw [s9 _ _ (s7 t o q hte)] at nt; cases nt
end
end Sm

namespace Sm
open PySem L2
/-! ### what is due -/
structure Deed where
  nm : Str
  lo : Option Int
  be : Option Int
  on : Bool
/-- the last deed of the name at the place -/
def lastOn (ds : List Deed) (q : Int) (x : Str) : Option Bool := ds.foldl (fun a d => if inS d.lo d.be q ∧ d.nm = x then some d.on else a) none
theorem lastOn_snoc (ds : List Deed) (d : Deed) (q : Int) (x : Str) : lastOn (ds ++ [d]) q x = if inS d.lo d.be q ∧ d.nm = x then some d.on else lastOn ds q x := by
  unfold lastOn; rw [List.foldl_append]; rfl
def lies (ds : List Deed) (q : Int) (x : Str) : Bool := (lastOn ds q x).getD false
def DeedX (H : Hp) (x : V) (d : Deed) : Prop := ∃ t o, x = .ref t ∧ H t = some (.tup [.str d.nm, .ref o, .bl d.on]) ∧ H o = some (.tup [oV d.lo, oV d.be])
structure DeedsX (H : Hp) (xs : List V) (ds : List Deed) : Prop where
  len : xs.length = ds.length
  at_ : ∀ (i : Nat) (x : V) (d : Deed), xs[i]? = some x → ds[i]? = some d → DeedX H x d
theorem DeedsX.nil {H : Hp} : DeedsX H [] [] := ⟨rfl, fun i x r h => by simp at h⟩
theorem DeedsX.mono {H H' : Hp} {xs : List V} {ds : List Deed} (h : DeedsX H xs ds) (s : ∀ b xs, H b = some (.tup xs) → H' b = some (.tup xs)) : DeedsX H' xs ds := ⟨h.len, fun i x d a b => by
  obtain ⟨t, o, e, h1, h2⟩ := h.at_ i x d a b
  exact ⟨t, o, e, s _ _ h1, s _ _ h2⟩⟩
theorem DeedsX.get {H : Hp} {xs : List V} {ds : List Deed} (h : DeedsX H xs ds) {i : Nat} {x : V} (e : xs[i]? = some x) : ∃ d, ds[i]? = some d ∧ DeedX H x d := by
  have hl := (List.getElem?_eq_some_iff.mp e).1
  rw [h.len] at hl
  exact ⟨_, List.getElem?_eq_getElem hl, h.at_ i x _ e (List.getElem?_eq_getElem hl)⟩
theorem DeedsX.snoc {H : Hp} {xs : List V} {ds : List Deed} {x : V} {d : Deed} (h : DeedsX H xs ds) (k : DeedX H x d) : DeedsX H (xs ++ [x]) (ds ++ [d]) := by
  refine ⟨by rw [List.length_append, List.length_append, h.len]; rfl, fun i y s a b => ?_⟩
  by_cases c : i < xs.length
  · rw [List.getElem?_append_left c] at a
    rw [List.getElem?_append_left (by rw [← h.len]; exact c)] at b
    exact h.at_ i y s a b
  · rw [List.getElem?_append_right (by omega)] at a
    rw [List.getElem?_append_right (by have := h.len; omega), ← h.len] at b
    have : i - xs.length = 0 := by
      have := (List.getElem?_eq_some_iff.mp a).1
      simp at this; omega
    rw [this] at a b
    cases a; cases b
    exact k
theorem eqv_refl : ∀ xs : List Str, PyData.eqvAll (xs.map PyData.str) (xs.map PyData.str) = true
  | [] => by rw [List.map_nil, PyData.eqvAll]
  | x :: xs => by rw [List.map_cons, PyData.eqvAll, eqv_refl xs, PyData.eqv]; simp
theorem nm_ok {x : Str} (h : IsNm x) : PyData.strOk x = true := by
  unfold PyData.strOk
  rw [Array.all_eq_true_iff_forall_mem]
  intro c hc
  have := h.2.2 c (by rw [Array.mem_toList_iff]; exact hc)
  have low : ∀ c ∈ letters.cps.toList, decide (c < 0x110000) = true := by decide +kernel
  exact low c this
theorem dp_strs {K : PySem.W.Frag} {H : Hp} : ∀ {xs : List Str}, (∀ x ∈ xs, IsNm x) → DpAll K H (xs.map V.str) (xs.map PyData.str) ∧ PyData.canLayAll0 (xs.map PyData.str) = true ∧ PyData.depthAll (xs.map PyData.str) = 0
  | [], _ => ⟨.nil, rfl, rfl⟩
  | x :: xs, h => by
    obtain ⟨a, b, c⟩ := dp_strs (K := K) (H := H) fun y hy => h y (List.mem_cons_of_mem _ hy)
    refine ⟨.cons (.str x) a, ?_, ?_⟩
    · rw [List.map_cons, PyData.canLayAll0, b, PyData.canLay0, nm_ok (h x List.mem_cons_self)]; rfl
    · rw [List.map_cons, PyData.depthAll, c, PyData.depth] <;> first | rfl | nofun
theorem dp_list {K : PySem.W.Frag} {H : Hp} {a : Addr} {xs : List Str} (h : ∀ x ∈ xs, IsNm x) (hS : SqL K H a (xs.map V.str)) : Dp K H (.ref a) (.list (xs.map PyData.str)) ∧ SeqAt.shaped (.list (xs.map PyData.str)) = true := by
  obtain ⟨d, b, c⟩ := dp_strs (K := K) (H := H) h
  refine ⟨.lst hS d, ?_⟩
  unfold SeqAt.shaped
  rw [PyData.canLay0, b, PyData.depth, c]; rfl
/-- two lists of the same names -/
theorem rEq_strs {K : PySem.W.Frag} {H : Hp} {a b : Addr} {xs : List Str} {Q : VK} (h : ∀ x ∈ xs, IsNm x) (h1 : SqL K H a (xs.map V.str)) (h2 : SqL K H b (xs.map V.str)) (q : Q (.bl true) H) : rEqD K (.ref a) (.ref b) H Q := by
  obtain ⟨d1, e1⟩ := dp_list h h1
  obtain ⟨d2, e2⟩ := dp_list h h2
  refine ⟨_, _, d1, d2, e1, e2, ?_⟩
  rw [PyData.eqv, eqv_refl]; exact q
theorem rNe_strs {K : PySem.W.Frag} {H : Hp} {a b : Addr} {xs : List Str} {Q : VK} (h : ∀ x ∈ xs, IsNm x) (h1 : SqL K H a (xs.map V.str)) (h2 : SqL K H b (xs.map V.str)) (q : Q (.bl false) H) : rNeD K (.ref a) (.ref b) H Q := by
  obtain ⟨d1, e1⟩ := dp_list h h1
  obtain ⟨d2, e2⟩ := dp_list h h2
  refine ⟨_, _, d1, d2, e1, e2, ?_⟩
  rw [PyData.eqv, eqv_refl]; exact q
section
variable {P : Program} {w : World} {K : PySem.W.Frag} {mg : Str → Option Value} {base : Heap}
theorem scIs : FnScope ["_law_found", "_law_due_here", "_law_name"] ["_law_found", "_law_due_here"] (defScope sIs) := ⟨rfl, rfl, rfl, by decide +kernel, rfl, by decide +kernel, by decide +kernel⟩
def spIs (K : PySem.W.Frag) : Sp := fun vs H Q _ => ∃ (a b : Addr) (xs : List Str), vs = [.ref a, .ref b] ∧ H a = some (.lst (xs.map V.str)) ∧ SqL K H b (xs.map V.str) ∧ xs.length ≤ 60 ∧ (∀ x ∈ xs, IsNm x) ∧ ∀ H', Same H H' → Q (.bl true) H'
theorem ok_is {f : Addr} {fd : FuncData} (F : Fun K "_law_is" "_law_is" sIs f fd) (T : Bi mg) : FnOk P w K mg base CX0 1 f fd ["_law_found", "_law_due_here"] (spIs K) := by
  refine F.ok scIs (fun vs H Q E h => ?_) (fun cdv A outer s H vs Q E hr h => ?_)
  · obtain ⟨a, b, xs, rfl, _⟩ := h
    rfl
  · obtain ⟨a, b, xs, rfl, ha, hb, h60, hnm, k⟩ := h
    refine ⟨_, (pss_one (ps_ret (pe_and (pe_callB call_isi (by rfl) T.isinstance (by decide +kernel) (pa_cons (pv 0) (pa_cons (pe_bltn (v := .ty "list") (by rfl) T.list PyProof.Rows.boot_list rfl) pa_nil))) (pe_and (pe_cmpR (op_eqD hr.units) (pv 0) (pv 1) (nomark _)) (pe_one (pe_callB (cr_all rfl) (by rfl) T.all (by decide +kernel) (pa_cons (pe_lc (own := [("_law_name", 2)]) (g := gName 2) (tt := tYes) (te := tCB (rIsi K) (tCons (tVar 2) (tCons (tC (.ty "str")) tNil))) rfl scIs.nd (pi_list (pv 0)) (blkOk_by (own := [("_law_name", 2)]) (N := ["_law_found", "_law_due_here", "_law_name"]) (sc := defScope sIs) (by decide +kernel)) (fun _ _ _ _ _ => pg_name (i := 2) scIs.nd rfl (Or.inl rfl)) (fun _ _ _ _ _ => pts_nil) (fun _ _ _ _ _ => (pe_callB (id := "isinstance") call_isi (by rfl) T.isinstance (by decide +kernel) (pa_cons (pv 2) (pa_cons (pe_bltn (v := .ty "str") (by rfl) T.str PyProof.Rows.boot_str rfl) pa_nil))))) pa_nil))))))), ?_⟩
    refine ⟨_, rfl, _, _, _, _, _, rfl, .ty "list", .base (.lst ha), kit_ty (by decide +kernel), true, rfl, iteT ⟨_, rfl, _, rfl, rEq_strs hnm (SqL.of ha) hb ⟨_, rfl, iteT ?_⟩⟩⟩
    have hl : (xs.map V.str).length = xs.length := List.length_map _
    refine ⟨_, rfl, a, rfl, ⟨_, SqL.of ha⟩, fun D hD => lc_all (walk_list (xs := xs.map V.str)) (fun i H' => Lc H D (List.replicate i (.bl true)) H') (Lc.zero hD) (fun i H' _ l => l.same.seq (SqL.of ha)) ?_ ?_⟩
    · rintro i v H1 H2 hi l ⟨rfl, hv⟩
      obtain ⟨x, hx, rfl⟩ : ∃ x, xs[i]? = some x ∧ v = V.str x := by
        rw [List.getElem?_map] at hv
        cases e : xs[i]? with
        | none => rw [e] at hv; cases hv
        | some x => rw [e] at hv; exact ⟨x, rfl, (Option.some.inj hv).symm⟩
      refine ⟨rfl, _, rfl, _, _, _, _, true, rfl, .ty "str", .base (.str x), kit_ty (by decide +kernel), List.replicate i (.bl true), l.at_, ?_, ?_⟩
      · rw [List.length_replicate]
        exact small1000 (by omega)
      · rw [List.replicate_succ']
        exact l.more hD (Same.refl _) _
    · intro H1 l
      refine ⟨D, List.replicate xs.length true, rfl, SqL.of ?_, ?_⟩
      · rw [List.map_replicate, ← hl]; exact l.at_
      rw [show (List.replicate xs.length true).all id = true from by simp]
      exact k _ l.same
theorem scDue : FnScope ["_law_deeds", "_law_names_here", "_law_place", "_law_lies", "_law_name", "_law_over_here", "_law_laid_there"] ["_law_deeds", "_law_names_here", "_law_place"] (defScope sDue) := ⟨rfl, rfl, rfl, by decide +kernel, rfl, by decide +kernel, by decide +kernel⟩
def spDue (K : PySem.W.Frag) : Sp := fun vs H Q _ => ∃ (a b : Addr) (q : Int) (xs : List V) (ds : List Deed) (ns : List Str), vs = [.ref a, .ref b, .int q] ∧ SqL K H a xs ∧ DeedsX H xs ds ∧ ds.length ≤ 100 ∧ SqL K H b (ns.map V.str) ∧ ns.length ≤ 60 ∧
  ∀ (H' : Hp) (p : Addr) (ys : List Str), Same H H' → H p = none → ys.Perm ns → ys.Pairwise strLe → H' p = some (.lst ((ys.filter (lies ds q)).map V.str)) → Q (.ref p) H'
theorem ok_due {f : Addr} {fd : FuncData} (F : Fun K "_law_due" "_law_due" sDue f fd) (T : Bi mg) (cH : Cal P w K mg base 1 "_law_has" (spHas K)) : FnOk P w K mg base CX0 2 f fd ["_law_deeds", "_law_names_here", "_law_place"] (spDue K) := by
  refine F.ok scDue (fun vs H Q E h => ?_) (fun cdv A outer s H vs Q E hr h => ?_)
  · obtain ⟨a, b, q, xs, ds, ns, rfl, _⟩ := h
    rfl
  · obtain ⟨a, b, q, xs, ds, ns, rfl, hS, hD, h100, hN, h60, k⟩ := h
    refine ⟨_, (pss_cons (ps_set (i := 3) scDue.nd rfl (.inr rfl) pe_dnewK) (pss_cons (ps_for PassesOwn.never rfl (pi_list (pv 0)) (pg_tup rfl (pgs_cons (pg_name (i := 4) scDue.nd rfl (.inl rfl)) (pgs_cons (pg_name (i := 5) scDue.nd rfl (.inl rfl)) (pgs_cons (pg_name (i := 6) scDue.nd rfl (.inl rfl)) pgs_nil)))) (pss_one (ps_if (pt_val (pcal cH hr (by decide) (by rfl) (pa_cons (pv 5) (pa_cons (pv 2) pa_nil)))) (pss_one (ps_dput (hu_of hr) (pv 3) (pv 4) (pv 6) rfl)) pss_nil))) (pss_one (ps_ret (pe_lc (own := [("_law_name", 4)]) (g := gName 4) rfl scDue.nd (pi_list (pe_callB cr_sortedL (by rfl) T.sorted (by decide +kernel) (pa_cons (pv 1) pa_nil))) (blkOk_by (own := [("_law_name", 4)]) (N := ["_law_deeds", "_law_names_here", "_law_place", "_law_lies", "_law_name", "_law_over_here", "_law_laid_there"]) (sc := defScope sDue) (by decide +kernel)) (fun _ _ _ _ _ => pg_name (i := 4) scDue.nd rfl (Or.inl rfl)) (fun _ _ _ _ _ => pts_one (pt_val (pe_dget2 (hu_of hr) (pv 3) (pv 4) pe_bl ⟨rfl, rfl, rfl, rfl⟩))) (fun _ _ _ _ _ => pv 4)))))), ?_⟩
    intro dd ndd
    refine ⟨_, rfl, a, rfl, ⟨_, (same_upd ndd).seq hS⟩, for_list (K := K) (a := a) (xs := xs) (fun i σ H' => ∃ (y4 y5 y6 : Option V) (kvs : List (Key × V)), σ = [some (.ref a), some (.ref b), some (.int q), some (.ref dd), y4, y5, y6] ∧ Same H H' ∧ H' dd = some (.dK kvs) ∧ kvs.length ≤ i ∧
        ∀ x, valV kvs (Sum.inr x : Key) = (lastOn (ds.take i) q x).map V.bl)
      ⟨none, none, none, [], rfl, same_upd ndd, upd_same, Nat.le_refl _, fun x => rfl⟩ (fun i σ H' _ ⟨_, _, _, _, _, sm, _⟩ => sm.seq hS) ?_ ?_⟩
    · rintro i x σ H' hi ⟨y4, y5, y6, kvs, rfl, sm, hdd, hl, hv⟩
      obtain ⟨d, hd, t, o, rfl, ht, ho⟩ := hD.get hi
      have hid := (List.getElem?_eq_some_iff.mp hd).1
      refine ⟨t, _, rfl, SqT.of (sm _ _ ht), rfl, _, _, rfl, _, _, rfl, _, _, rfl, rfl, ?_⟩
      refine ⟨_, rfl, _, rfl, o, d.lo, d.be, q, rfl, SqT.of (sm _ _ ho), _, rfl, ?_⟩
      by_cases c : inS d.lo d.be q
      · refine ifT c ⟨_, rfl, _, rfl, _, rfl, dd, _, rfl, DPut.k (k := Sum.inr d.nm) hdd (small1000 (by omega)), ?_⟩
        refine ⟨_, _, _, _, rfl, fun b' ob e => ?_, upd_same, Nat.le_trans (length_putK _ _ _) (by omega), fun x => ?_⟩
        · rw [upd_ne (ne_of_none e ndd)]; exact sm _ _ e
        · rw [valV_put, take_snoc hd, lastOn_snoc]
          by_cases z : d.nm = x
          · rw [if_pos (by rw [z]), if_pos ⟨c, z⟩]; rfl
          · rw [if_neg (fun e => z (Sum.inr.inj e).symm), if_neg fun e => z e.2]; exact hv x
      · refine ifF c ⟨_, _, _, kvs, rfl, sm, hdd, by omega, fun x => ?_⟩
        rw [take_snoc hd, lastOn_snoc, if_neg fun e => c e.1]; exact hv x
    · rintro σ H' ⟨y4, y5, y6, kvs, rfl, sm, hdd, hl, hv⟩
      rw [hD.len, List.take_length] at hv
      refine ⟨_, rfl, b, ns, rfl, sm.seq hN, fun ys p pm pw np => ?_⟩
      have hyl : ys.length ≤ 60 := by rw [pm.length_eq]; exact h60
      have s1 : Same H' (upd H' p (.lst (ys.map V.str))) := same_upd np
      refine ⟨p, rfl, ⟨_, SqL.of upd_same⟩, fun D nD => lc_it (walk_list (xs := ys.map V.str)) (fun i H2 => Lc (upd H' p (.lst (ys.map V.str))) D (((ys.take i).filter (lies ds q)).map V.str) H2) (Lc.zero nD) (fun i H2 _ l => l.same.seq (SqL.of upd_same)) ?_ ?_⟩
      · rintro i v H1 H2 hi l ⟨rfl, hv'⟩
        obtain ⟨x, hx, rfl⟩ : ∃ x, ys[i]? = some x ∧ v = V.str x := by
          rw [List.getElem?_map] at hv'
          cases e : ys[i]? with
          | none => rw [e] at hv'; cases hv'
          | some x => rw [e] at hv'; exact ⟨x, rfl, (Option.some.inj hv').symm⟩
        have hdd2 := l.same _ _ (s1 _ _ hdd)
        refine ⟨rfl, _, rfl, dd, rfl, .inl ⟨_, .inl hdd2⟩, _, rfl, _, DGet.k (k := Sum.inr x) hdd2, ?_⟩
        rw [hv x, take_snoc hx, List.filter_append, List.map_append]
        have e : ((lastOn ds q x).map V.bl).getD (V.bl false) = V.bl (lies ds q x) := by
          unfold lies
          cases lastOn ds q x <;> rfl
        rw [e]
        refine ⟨_, rfl, ifB (fun c => ?_) (fun c => ?_)⟩
        · refine ⟨_, rfl, _, l.at_, ?_, ?_⟩
          · rw [List.length_map]
            have := List.length_filter_le (lies ds q) (ys.take i)
            rw [List.length_take] at this
            exact small1000 (by omega)
          · rw [List.filter_cons, if_pos c]
            exact l.more nD (Same.refl _) _
        · rw [List.filter_cons, if_neg (by rw [c]; exact Bool.false_ne_true)]
          show Lc _ D (_ ++ []) _
          rw [List.append_nil]; exact l
      · intro H1 l
        have e : (ys.take (ys.map V.str).length) = ys := by rw [List.length_map, List.take_length]
        rw [e] at l
        exact k H1 D ys ((sm.trans s1).trans l.same) (sm.free (s1.free nD)) pm pw l.at_
end
end Sm

namespace Sm
open PySem L2
/-! ### the law -/
theorem told_take {o : Option Nat} {kn : List Str} {f : Str → Bool} (h : ∀ i x, kn[i]? = some x → bitO o i = f x) : ∀ n, n ≤ kn.length → told o kn n = (kn.take n).filter f
  | 0, _ => rfl
  | n + 1, hn => by
    have e := List.getElem?_eq_getElem (show n < kn.length by omega)
    rw [told_succ e, told_take h n (by omega), take_snoc e, List.filter_append, h _ _ e]
    congr 1
    by_cases c : f kn[n] = true
    · rw [if_pos c, List.filter_cons, if_pos c]; rfl
    · rw [if_neg c, List.filter_cons, if_neg c]; rfl
theorem told_filter {o : Option Nat} {kn : List Str} {f : Str → Bool} (h : ∀ i x, kn[i]? = some x → bitO o i = f x) : told o kn kn.length = kn.filter f := by
  rw [told_take h _ (Nat.le_refl _), List.take_length]
/-- the rows tell what the deeds say -/
def Agree (M : List Row) (kn : List Str) (ds : List Deed) : Prop := ∀ q i x, kn[i]? = some x → bitO (tell M q) i = lies ds q x
theorem Agree.nil {kn : List Str} : Agree [] kn [] := fun _ _ _ _ => rfl
theorem lies_snoc (ds : List Deed) (d : Deed) (q : Int) (x : Str) : lies (ds ++ [d]) q x = if inS d.lo d.be q ∧ d.nm = x then d.on else lies ds q x := by
  unfold lies
  rw [lastOn_snoc]
  by_cases c : inS d.lo d.be q ∧ d.nm = x
  · rw [if_pos c, if_pos c]; rfl
  · rw [if_neg c, if_neg c]
theorem Agree.lay {M M' : List Row} {kn : List Str} {ds : List Deed} {nm : Str} {i : Nat} {lo be : Option Int} (A : Agree M kn ds) (nd : kn.Nodup) (hi : kn[i]? = some nm)
    (te : ∀ q, tell M' q = withBits (tell M q) (if inS lo be q then some (2 ^ i) else none)) : Agree M' kn (ds ++ [⟨nm, lo, be, true⟩]) := fun q j x hx => by
  rw [te q, lies_snoc]
  by_cases c : inS lo be q
  · rw [if_pos c, bit_lay]
    by_cases e : i = j
    · subst e
      rw [hi] at hx
      rw [if_pos ⟨c, Option.some.inj hx⟩, decide_eq_true rfl]; rfl
    · rw [if_neg fun z => e (nd_ix nd hi (by rw [hx]; exact congrArg some z.2.symm)), decide_eq_false e, A q j x hx]; rfl
  · rw [if_neg c, bit_lay0, if_neg fun z => c z.1]
    exact A q j x hx
theorem Agree.lift {M M' : List Row} {kn : List Str} {ds : List Deed} {nm : Str} {i : Nat} {lo be : Option Int} (A : Agree M kn ds) (nd : kn.Nodup) (hi : kn[i]? = some nm)
    (te : ∀ q, tell M' q = withoutBits (tell M q) (if inS lo be q then some (2 ^ i) else none)) : Agree M' kn (ds ++ [⟨nm, lo, be, false⟩]) := fun q j x hx => by
  rw [te q, lies_snoc]
  by_cases c : inS lo be q
  · rw [if_pos c, bit_lift]
    by_cases e : i = j
    · subst e
      rw [hi] at hx
      rw [if_pos ⟨c, Option.some.inj hx⟩, decide_eq_true rfl]; rfl
    · rw [if_neg fun z => e (nd_ix nd hi (by rw [hx]; exact congrArg some z.2.symm)), decide_eq_false e, A q j x hx]; rfl
  · rw [if_neg c, bit_lift0, if_neg fun z => c z.1]
    exact A q j x hx
/-! the heap through the loops -/
theorem BunAt.same {C : Addr} {H H' : Hp} {p dk kl : Addr} {kn : List Str} {M : List Row} (h : BunAt C H p dk kl kn M) (s : Same H H') : BunAt C H' p dk kl kn M := by
  obtain ⟨⟨dx, hp⟩, hk, ys, hl, hy⟩ := h
  exact ⟨⟨dx, s _ _ hp⟩, s _ _ hk, ys, s _ _ hl, hy.mono fun b xs e => s _ _ e⟩
/-- all but what stands at one list -/
theorem BunAt.but {C : Addr} {H H' : Hp} {p dk kl e : Addr} {kn : List Str} {M : List Row} {zs : List V} (h : BunAt C H p dk kl kn M) (he : H e = some (.lst zs)) (s : ∀ b ob, H b = some ob → b ≠ e → H' b = some ob) (n1 : dk ≠ e) (n2 : kl ≠ e) : BunAt C H' p dk kl kn M := by
  obtain ⟨⟨dx, hp⟩, hk, ys, hl, hy⟩ := h
  exact ⟨⟨dx, s _ _ hp (ne_of hp he (by intro z; cases z))⟩, s _ _ hk n1, ys, s _ _ hl n2, hy.mono fun b xs h => s _ _ h (ne_of h he (by intro z; cases z))⟩
theorem DeedsX.but {H H' : Hp} {xs : List V} {ds : List Deed} {e : Addr} {o : HO} (h : DeedsX H xs ds) (he : H e = some o) (ho : ∀ xs, o ≠ .tup xs) (s : ∀ b ob, H b = some ob → b ≠ e → H' b = some ob) : DeedsX H' xs ds :=
  h.mono fun b xs k => s _ _ k fun z => by rw [z, he] at k; exact ho xs (Option.some.inj k)
theorem Map.more {E : List Int} {ps : List Row} (m : Map E ps) (F : List Int) : Map (E ++ F) ps := ⟨m.wf, m.val, m.en.mono fun x hx => List.mem_append_left _ hx⟩
structure LI (C : Addr) (Hs H : Hp) (p1 dk1 dl el : Addr) (kn1 : List Str) (kl : Addr) (M : List Row) (dv : List V) (ds : List Deed) (es : List Int) : Prop where
  keep : ∀ b ob, Hs b = some ob → b ≠ el → b ≠ dl → b ≠ p1 → H b = some ob
  bun : BunAt C H p1 dk1 kl kn1 M
  map : Map es M
  dl_ : H dl = some (.lst dv)
  dd : DeedsX H dv ds
  el_ : H el = some (.lst (es.map V.int))
  ne1 : kl ≠ dl
  ne2 : kl ≠ el
  en : es.length = 2 * ds.length + 1
  ag : Agree M kn1 ds
section
variable {C p1 dk1 dl el kl : Addr} {Hs H H' : Hp} {kn1 : List Str} {M : List Row} {dv : List V} {ds : List Deed} {es : List Int}
theorem LI.same (L : LI C Hs H p1 dk1 dl el kn1 kl M dv ds es) (s : Same H H') : LI C Hs H' p1 dk1 dl el kn1 kl M dv ds es :=
  ⟨fun b ob h a1 a2 a3 => s _ _ (L.keep b ob h a1 a2 a3), L.bun.same s, L.map, s _ _ L.dl_, L.dd.mono fun b xs h => s _ _ h, s _ _ L.el_, L.ne1, L.ne2, L.en, L.ag⟩
end
end Sm

namespace Sm
open PySem L2
/-! ### a class that is called by its name -/
structure Mak (P : Program) (w : World) (K : PySem.W.Frag) (mg : Str → Option Value) (base : Heap) (k : Nat) (C : Addr) (x : Str) (sp : Sp) : Prop where
  ex : ∃ (f : Addr) (fd : FuncData) (ps : List Str), Mk K C f ∧ FnOk P w K mg base CX0 k f fd ps sp ∧ mg x = some (.ref C) ∧ Binds K fd ps []
theorem pmak {X : Cx} {k j : Nat} {C : Addr} {x : Str} {sp : Sp} {p pos : Pos} {e : Expr} {es : List Expr} {t : TA} (c : Mak X.prog X.w X.K X.mg X.base k C x sp) (hr : Room j X.A) (hk : k + 1 ≤ j) (hg : Gl X x) (ha : PA X (e :: es) t)
    (hdb : (x == ("__debug__" : Str)) = false := by decide) (he : starEach (e :: es) X.env = (false, eval e X.env) :: starEach es X.env := by rfl) (hpl : (backTo pos (starEach es X.env)).any (·.1) = false := by rfl) :
    PE X (.Call (.Name x p) (e :: es) [] pos) (tMake C sp [] E0 t) := by
  obtain ⟨f, fd, ps, M, G, hm, b⟩ := c.ex
  exact pe_make M G (hr.mono hk) hg hm b .nil pass0 ha hdb he hpl
theorem atI_last (xs : List V) (x : V) : atI (xs ++ [x]) (-1) = some x := by
  unfold atI
  rw [List.length_append, List.length_singleton, ixN_last]
  show (xs ++ [x])[xs.length]? = some x
  rw [List.getElem?_append_right (Nat.le_refl _), Nat.sub_self]; rfl
theorem atI_str {xs : List Str} {x : Int} (h0 : 0 ≤ x) (h1 : x < (xs.length : Int)) : ∃ z, z ∈ xs ∧ atI (xs.map V.str) x = some (V.str z) := by
  have hl : x.toNat < xs.length := by omega
  refine ⟨xs[x.toNat], List.getElem_mem hl, at_of (j := x.toNat) (by omega) ?_⟩
  rw [List.getElem?_map, List.getElem?_eq_getElem hl]; rfl
theorem cut24 (ns : List Int) : ∃ cs : List Int, cutV (ns.map V.int) (some 3) (some 27) = cs.map V.int ∧ cs.length ≤ 24 := by
  refine ⟨(ns.drop (HT.sIx (ns.map V.int).length 0 (some 3))).take (HT.sIx (ns.map V.int).length (ns.map V.int).length (some 27) - HT.sIx (ns.map V.int).length 0 (some 3)), ?_, ?_⟩
  · unfold cutV
    rw [List.map_take, List.map_drop]
  · rw [List.length_take, List.length_drop, show (some 3 : Option Int) = some ((3 : Nat) : Int) from rfl, show (some 27 : Option Int) = some ((27 : Nat) : Int) from rfl, HT.sIx_nat, HT.sIx_nat, List.length_map]
    omega
/-- what stands through both loops -/
structure Fx (C : Addr) (Hs : Hp) (p1 dk1 dl el nl sl p2 dk2 kl2 : Addr) (xs kn1 kn2 : List Str) (cs : List Int) : Prop where
  nl_ : Hs nl = some (.lst (xs.map V.str))
  sl_ : Hs sl = some (.lst (cs.map V.int))
  b2 : BunAt C Hs p2 dk2 kl2 kn2 []
  p1_ : ∃ dx fs, Hs p1 = some (.ins C dx fs)
  el_ : ∃ zs, Hs el = some (.lst zs)
  dl_ : ∃ zs, Hs dl = some (.lst zs)
  nl1 : nl ≠ el
  nl2 : nl ≠ dl
  sl1 : sl ≠ el
  sl2 : sl ≠ dl
  dk21 : dk2 ≠ el
  dk22 : dk2 ≠ dl
  kl21 : kl2 ≠ el
  kl22 : kl2 ≠ dl
  dk11 : dk1 ≠ el
  dk12 : dk1 ≠ dl
  de : dl ≠ el
  pp : p2 ≠ p1
  pm : kn1.Perm xs
  srt : kn1.Pairwise strLe
  n1 : 1 ≤ xs.length
  n60 : xs.length ≤ 60
  nm : ∀ x ∈ xs, IsNm x
  nd : xs.Nodup
  l2 : kn2.length ≤ 60
section
variable {K : PySem.W.Frag} {C p1 dk1 dl el nl sl p2 dk2 kl2 kl : Addr} {Hs H : Hp} {xs kn1 kn2 : List Str} {cs : List Int} {M : List Row} {dv : List V} {ds : List Deed} {es : List Int}
theorem Fx.lst (F : Fx C Hs p1 dk1 dl el nl sl p2 dk2 kl2 xs kn1 kn2 cs) (L : LI C Hs H p1 dk1 dl el kn1 kl M dv ds es) {b : Addr} {zs : List V} (h : Hs b = some (.lst zs)) (h1 : b ≠ el) (h2 : b ≠ dl) : H b = some (.lst zs) := by
  obtain ⟨dx, fs, hp⟩ := F.p1_
  exact L.keep _ _ h h1 h2 (ne_of h hp (by intro z; cases z))
theorem Fx.bun2 (F : Fx C Hs p1 dk1 dl el nl sl p2 dk2 kl2 xs kn1 kn2 cs) (L : LI C Hs H p1 dk1 dl el kn1 kl M dv ds es) : BunAt C H p2 dk2 kl2 kn2 [] := by
  obtain ⟨⟨dx, hp⟩, hk, ys, hl, hy⟩ := F.b2
  obtain ⟨z1, he⟩ := F.el_
  obtain ⟨z2, hd⟩ := F.dl_
  have : ys = [] := List.eq_nil_of_length_eq_zero (by rw [hy.len]; rfl)
  subst this
  exact ⟨⟨dx, L.keep _ _ hp (ne_of hp he (by intro z; cases z)) (ne_of hp hd (by intro z; cases z)) F.pp⟩, F.lst L hk F.dk21 F.dk22, [], F.lst L hl F.kl21 F.kl22, RowsX.nil⟩
/-- what the first bundle tells is what is due -/
theorem chk1 (F : Fx C Hs p1 dk1 dl el nl sl p2 dk2 kl2 xs kn1 kn2 cs) (L : LI C Hs H p1 dk1 dl el kn1 kl M dv ds es) (h24 : ds.length ≤ 24) {σ : L2.St} {q : Int} {Q : VK} (e3 : σ[3]? = some (some (.ref p1))) (e11 : σ[11]? = some (some (.int q)))
    (e5 : σ[5]? = some (some (.ref dl))) (e1 : σ[1]? = some (some (.ref nl))) (k : ∀ H', Same H H' → Q (.bl true) H') :
    (tCall (spIs K) [] E0 (tCons (tMeth C "names_at" (spNamesAt C) [] E0 (tVar 3) (tCons (tVar 11) tNil)) (tCons (tCall (spDue K) [] E0 (tCons (tVar 5) (tCons (tVar 1) (tCons (tVar 11) tNil)))) tNil))) σ H Q := by
  obtain ⟨⟨dx, hp⟩, hk, ys, hkl, hys⟩ := id L.bun
  have hlen : kn1.length ≤ 60 := by rw [F.pm.length_eq]; exact F.n60
  have hn := F.lst L F.nl_ F.nl1 F.nl2
  refine ⟨_, e3, p1, dx, _, rfl, hp, flds_no _ _ (by decide +kernel) (by decide +kernel), _, e11, p1, dk1, kl, kn1, M, q, rfl, L.bun, L.map.wf, hlen, fun H1 d s1 nd hd => ?_⟩
  refine ⟨_, e5, _, e1, _, e11, dl, nl, q, dv, ds, xs, rfl, SqL.of (s1 _ _ L.dl_), L.dd.mono (fun b xs h => s1 _ _ h), by omega, SqL.of (s1 _ _ hn), F.n60, fun H2 e ys s2 ne pm pw he => ?_⟩
  have eq : kn1 = ys := str_one (F.pm.trans pm.symm) F.srt pw
  subst eq
  rw [told_filter (f := lies ds q) (fun i x hx => L.ag q i x hx)] at hd
  have hsub : ∀ x ∈ kn1.filter (lies ds q), x ∈ kn1 := fun x hx => (List.mem_filter.mp hx).1
  exact ⟨d, e, kn1.filter (lies ds q), rfl, s2 _ _ hd, SqL.of he, Nat.le_trans (List.length_filter_le _ _) hlen, fun x hx => F.nm x (F.pm.mem_iff.mp (hsub x hx)), fun H3 s3 => k _ (s1.trans (s2.trans s3))⟩
/-- the second one tells nothing -/
theorem chk2 (F : Fx C Hs p1 dk1 dl el nl sl p2 dk2 kl2 xs kn1 kn2 cs) (L : LI C Hs H p1 dk1 dl el kn1 kl M dv ds es) {σ : L2.St} {q : Int} {Q : VK} (e4 : σ[4]? = some (some (.ref p2))) (e11 : σ[11]? = some (some (.int q)))
    (k : ∀ H', Same H H' → Q (.bl true) H') : (tCall (spIs K) [] E0 (tCons (tMeth C "names_at" (spNamesAt C) [] E0 (tVar 4) (tCons (tVar 11) tNil)) (tCons (tLst tNil) tNil))) σ H Q := by
  have B := F.bun2 L
  obtain ⟨⟨dx, hp⟩, hk, ys, hkl, hys⟩ := id B
  refine ⟨_, e4, p2, dx, _, rfl, hp, flds_no _ _ (by decide +kernel) (by decide +kernel), _, e11, p2, dk2, kl2, kn2, [], q, rfl, B, WF.nil, F.l2, fun H1 d s1 nd hd => ?_⟩
  rw [show tell [] q = none from rfl, told_none] at hd
  refine ⟨Nat.zero_le _, fun e ne => ?_⟩
  have s2 := same_upd (o := .lst []) ne
  exact ⟨d, e, [], rfl, s2 _ _ hd, SqL.of upd_same, Nat.zero_le _, (fun x hx => nomatch hx), fun H3 s3 => k _ (s1.trans (s2.trans s3))⟩
/-- one deed more, its name not yet laid or lifted -/
theorem LI.mid (F : Fx C Hs p1 dk1 dl el nl sl p2 dk2 kl2 xs kn1 kn2 cs) {H1 H2 H4 : Hp} {t t3 : Addr} {l b : Int} {lo be : Option Int} {x : Str} {on : Bool} (L : LI C Hs H1 p1 dk1 dl el kn1 kl M dv ds es)
    (kp : ∀ b ob, H1 b = some ob → b ≠ el → H2 b = some ob) (hel : H2 el = some (.lst ((es ++ [l, b]).map V.int))) (ht : H2 t = some (.tup [oV lo, oV be])) (nt : H2 t3 = none)
    (e4 : upd (upd H2 t3 (.tup [.str x, .ref t, .bl on])) dl (.lst (dv ++ [.ref t3])) = H4) :
    (∀ b ob, Hs b = some ob → b ≠ el → b ≠ dl → b ≠ p1 → H4 b = some ob) ∧ BunAt C H4 p1 dk1 kl kn1 M ∧ H4 t = some (.tup [oV lo, oV be]) ∧ H4 dl = some (.lst (dv ++ [.ref t3])) ∧ DeedsX H4 (dv ++ [.ref t3]) (ds ++ [⟨x, lo, be, on⟩]) ∧
      H4 el = some (.lst ((es ++ [l, b]).map V.int)) ∧ H4 t3 = some (.tup [.str x, .ref t, .bl on]) := by
  subst e4
  have s3 := same_upd (o := .tup [.str x, .ref t, .bl on]) nt
  have hdl := kp _ _ L.dl_ F.de
  have hdl3 := s3 _ _ hdl
  have bun2 := (L.bun.but L.el_ kp F.dk11 L.ne2).same s3
  have dd2 := (L.dd.but L.el_ (by nofun) kp).mono fun b xs h => s3 _ _ h
  have k4 : ∀ b ob, (upd H2 t3 (.tup [.str x, .ref t, .bl on])) b = some ob → b ≠ dl → upd (upd H2 t3 (.tup [.str x, .ref t, .bl on])) dl (.lst (dv ++ [.ref t3])) b = some ob := fun b ob h hb => by rw [upd_ne hb]; exact h
  have t4 : ∀ b zs, (upd H2 t3 (.tup [.str x, .ref t, .bl on])) b = some (.tup zs) → upd (upd H2 t3 (.tup [.str x, .ref t, .bl on])) dl (.lst (dv ++ [.ref t3])) b = some (.tup zs) := ntup hdl3 (by nofun) _
  refine ⟨fun b ob h a1 a2 a3 => k4 _ _ (s3 _ _ (kp _ _ (L.keep _ _ h a1 a2 a3) a1)) a2, bun2.but hdl3 k4 F.dk12 L.ne1, t4 _ _ (s3 _ _ ht), upd_same, (dd2.mono t4).snoc ⟨t3, t, rfl, t4 _ _ upd_same, t4 _ _ (s3 _ _ ht)⟩, k4 _ _ (s3 _ _ hel) F.de.symm, t4 _ _ upd_same⟩
/-- .. and laid or lifted -/
theorem LI.next (F : Fx C Hs p1 dk1 dl el nl sl p2 dk2 kl2 xs kn1 kn2 cs) {H4 H5 : Hp} {kl' : Addr} {l b : Int} {x : V} {d : Deed} {M' : List Row} (en : es.length = 2 * ds.length + 1)
    (keep : ∀ b ob, Hs b = some ob → b ≠ el → b ≠ dl → b ≠ p1 → H4 b = some ob) (bun : BunAt C H4 p1 dk1 kl kn1 M) (hdl : H4 dl = some (.lst (dv ++ [x]))) (dd : DeedsX H4 (dv ++ [x]) (ds ++ [d])) (hel : H4 el = some (.lst ((es ++ [l, b]).map V.int)))
    (nkl : H4 kl' = none) (b5 : BunAt C H5 p1 dk1 kl' kn1 M') (m5 : Map (es ++ [l, b]) M') (kp : ∀ b ob, H4 b = some ob → b ≠ p1 → H5 b = some ob) (ag : Agree M' kn1 (ds ++ [d])) : LI C Hs H5 p1 dk1 dl el kn1 kl' M' (dv ++ [x]) (ds ++ [d]) (es ++ [l, b]) := by
  obtain ⟨⟨dx, hp⟩, _⟩ := id bun
  have n1 := ne_of hdl hp (by intro z; cases z)
  have n2 := ne_of hel hp (by intro z; cases z)
  refine ⟨fun b ob h a1 a2 a3 => kp _ _ (keep _ _ h a1 a2 a3) a3, b5, m5, kp _ _ hdl n1, dd.but hp (by nofun) kp, kp _ _ hel n2, fun z => ?_, fun z => ?_, ?_, ag⟩
  · rw [z, hdl] at nkl; cases nkl
  · rw [z, hel] at nkl; cases nkl
  · rw [List.length_append, List.length_append, en]
    show 2 * ds.length + 1 + 2 = 2 * (ds.length + 1) + 1
    omega
end
end Sm

namespace Sm
open PySem L2
section
variable {P : Program} {w : World} {K : PySem.W.Frag} {mg : Str → Option Value} {base : Heap}
theorem scLaw : FnScope ["_law_script", "_law_names_here", "_law_handed", "_law_bundle", "_law_beside", "_law_deeds", "_law_ends", "_law_cell", "_law_over_here", "_law_mixed", "_law_told", "_law_place", "_law_end"] ["_law_script"] (defScope sLaw) := ⟨rfl, rfl, rfl, by decide +kernel, rfl, by decide +kernel, by decide +kernel⟩
def spLaw (K : PySem.W.Frag) : Sp := fun vs H Q _ => ∃ (a : Addr) (ns : List Int), vs = [.ref a] ∧ SqL K H a (ns.map V.int) ∧ ns.length ≤ 63 ∧ ∀ H', Q (.bl true) H'
theorem ok_law {f C : Addr} {fd : FuncData} (F : Fun K "law" "law" sLaw f fd) (T : Bi mg) (B : BT K mg C) (cM : Mak P w K mg base 2 C "Bundle" (spInit K C)) (cC : Cal P w K mg base 1 "_law_cell_at" (spCellAt K)) (cN : Cal P w K mg base 1 "_law_names" spNames)
    (cO : Cal P w K mg base 2 "_law_over" spOver) (cD : Cal P w K mg base 2 "_law_due" (spDue K)) (cI : Cal P w K mg base 1 "_law_is" (spIs K)) (mL : Met P w K mg base 4 C "lay" (spOp K C withBits)) (mU : Met P w K mg base 4 C "lift" (spOp K C withoutBits))
    (mA : Met P w K mg base 3 C "names_at" (spNamesAt C)) : FnOk P w K mg base CX0 5 f fd ["_law_script"] (spLaw K) := by
  refine F.ok scLaw (fun vs H Q E h => ?_) (fun cdv A outer s H vs Q E hr h => ?_)
  · obtain ⟨a, ns, rfl, _⟩ := h
    rfl
  · obtain ⟨a, ns, rfl, hS, h63, k⟩ := h
    refine ⟨_, (pss_cons (ps_set (i := 1) scLaw.nd rfl (.inl rfl) (pcal cN hr (by decide) (by rfl) (pa_cons (pcal cC hr (by decide) (by rfl) (pa_cons (pv 0) (pa_cons pe_int pa_nil))) (pa_cons (pcal cC hr (by decide) (by rfl) (pa_cons (pv 0) (pa_cons pe_int pa_nil))) pa_nil)))) (pss_cons (ps_set (i := 2) scLaw.nd rfl (.inl rfl) (pe_callTy call_list_of (by rfl) T.list PyProof.Rows.boot_list (pa_cons (pv 1) pa_nil))) (pss_cons (ps_set (i := 3) scLaw.nd rfl (.inl rfl) (pmak cM hr (by decide) (by rfl) (pa_cons (pv 2) pa_nil))) (pss_cons (ps_set (i := 4) scLaw.nd rfl (.inl rfl) (pmak cM hr (by decide) (by rfl) (pa_cons (pe_lstRev rfl (by rfl) T.list (by rfl) T.reversed (pv 1)) pa_nil))) (pss_cons (ps_if (pt_cmpR (op_neD hr.units) (pv 2) (pv 1) (nomark _)) (pss_one ps_never) pss_nil) (pss_cons (ps_expr (pe_bm0 PySem.F.plainAttrs_list PySem.F.slot_list_clear PySem.F.type_list_clear mt_clear (pv 2))) (pss_cons (ps_set (i := 5) scLaw.nd rfl (.inl rfl) (pe_lst pa_nil)) (pss_cons (ps_set (i := 6) scLaw.nd rfl (.inl rfl) (pe_lst (pa_cons (pe_op op_sub (pe_op op_mod (pcal cC hr (by decide) (by rfl) (pa_cons (pv 0) (pa_cons pe_int pa_nil))) pe_int) pe_int) pa_nil))) (C8.pss_cut (ps_for PassesOwn.never rfl (pi_list (pe_slice sl_list (pv 0) (po_some pe_int) (po_some pe_int))) (pg_name (i := 7) scLaw.nd rfl (.inl rfl)) (pss_cons (ps_set (i := 8) scLaw.nd rfl (.inl rfl) (pcal cO hr (by decide) (by rfl) (pa_cons (pv 7) (pa_cons (pe_callB call_len_seq (by rfl) T.len PySem.boot_len (pa_cons (pv 5) pa_nil)) (pa_cons (pv 6) pa_nil))))) (pss_cons (ps_set (i := 9) scLaw.nd rfl (.inl rfl) (pe_op op_mod (pe_op op_add (pe_op op_add (pe_op op_mul (pv 7) pe_int) (pe_op op_mul (pe_callB call_len_seq (by rfl) T.len PySem.boot_len (pa_cons (pv 5) pa_nil)) pe_int)) pe_int) pe_int)) (C8.pss_cut (ps_set (i := 9) scLaw.nd rfl (.inl rfl) (pe_op op_mod (pe_op op_mul (pv 9) (pv 9)) pe_int)) (pss_cons (ps_expr (pe_bm PySem.F.plainAttrs_list PySem.F.slot_list_append PySem.F.type_list_append mt_append (pv 5) (pa_cons (pe_tup (pa_cons (pe_ix ix_list (pv 1) (pe_op op_mod (pe_op op_fdiv (pv 9) pe_int) (pe_callB call_len_seq (by rfl) T.len PySem.boot_len (pa_cons (pv 1) pa_nil))) (fun _ _ => rfl)) (pa_cons (pv 8) (pa_cons (pe_cmpR op_gt (pe_op op_mod (pv 9) pe_int) pe_int (nomark _)) pa_nil)))) pa_nil))) (C8.pss_cut (ps_if (pt_cmpR op_gt (pe_op op_mod (pv 9) pe_int) pe_int (nomark _)) (pss_one (ps_set (i := 10) scLaw.nd rfl (.inl rfl) (pmet mL hr (by decide) (pv 3) (pa_cons (pe_ix ix_tup (pe_ix ix_list (pv 5) (pe_un un_neg pe_int) (fun _ _ => rfl)) pe_int (fun _ _ => rfl)) (pa_cons (pv 8) pa_nil))))) (pss_one (ps_set (i := 10) scLaw.nd rfl (.inl rfl) (pmet mU hr (by decide) (pv 3) (pa_cons (pe_ix ix_tup (pe_ix ix_list (pv 5) (pe_un un_neg pe_int) (fun _ _ => rfl)) pe_int (fun _ _ => rfl)) (pa_cons (pv 8) pa_nil)))))) (pss_cons (ps_if (pt_cmpR op_notN (pv 10) pe_non (nomark _)) (pss_one ps_never) pss_nil) (pss_cons (ps_set (i := 11) scLaw.nd rfl (.inl rfl) (pe_op op_sub (pe_ix ix_list (pv 6) (pe_un un_neg pe_int) (fun _ _ => rfl)) (pe_op op_mod (pe_op op_fdiv (pv 9) pe_int) pe_int))) (pss_one (ps_if (pt_not (pt_val (pcal cI hr (by decide) (by rfl) (pa_cons (pmet mA hr (by decide) (pv 3) (pa_cons (pv 11) pa_nil)) (pa_cons (pcal cD hr (by decide) (by rfl) (pa_cons (pv 5) (pa_cons (pv 1) (pa_cons (pv 11) pa_nil)))) pa_nil))))) (pss_one ps_never) pss_nil)))))))))) (C8.pss_cut (ps_for PassesOwn.never rfl (pi_list (pe_ssI rfl (by rfl) T.sorted (by rfl) T.set (pe_op op_cat (pv 6) (pe_lc (own := [("_law_end", 12)]) (g := gName 12) (tt := tYes) (te := tOp (rI0 fun i j => .int (i - j)) (tVar 12) (tC (.int 1))) rfl scLaw.nd (pi_list (pv 6)) (blkOk_by (own := [("_law_end", 12)]) (N := ["_law_script", "_law_names_here", "_law_handed", "_law_bundle", "_law_beside", "_law_deeds", "_law_ends", "_law_cell", "_law_over_here", "_law_mixed", "_law_told", "_law_place", "_law_end"]) (sc := defScope sLaw) (by decide +kernel)) (fun _ _ _ _ _ => pg_name (i := 12) scLaw.nd rfl (Or.inl rfl)) (fun _ _ _ _ _ => pts_nil) (fun _ _ _ _ _ => pe_op op_sub (pv 12) pe_int))))) (pg_name (i := 11) scLaw.nd rfl (.inl rfl)) (pss_cons (ps_if (pt_not (pt_val (pcal cI hr (by decide) (by rfl) (pa_cons (pmet mA hr (by decide) (pv 3) (pa_cons (pv 11) pa_nil)) (pa_cons (pcal cD hr (by decide) (by rfl) (pa_cons (pv 5) (pa_cons (pv 1) (pa_cons (pv 11) pa_nil)))) pa_nil))))) (pss_one ps_never) pss_nil) (pss_one (ps_if (pt_not (pt_val (pcal cI hr (by decide) (by rfl) (pa_cons (pmet mA hr (by decide) (pv 4) (pa_cons (pv 11) pa_nil)) (pa_cons (pe_lst pa_nil) pa_nil))))) (pss_one ps_never) pss_nil)))) (pss_one (ps_ret pe_bl)))))))))))), ?_⟩
    -- the names, the two bundles
    refine ⟨_, rfl, a, ns, 0, rfl, hS, fun z0 => ⟨_, rfl, a, ns, 1, rfl, hS, fun z1 => ⟨z0, z1, rfl, fun H1 nl xs s1 n1 hnl h1 h60 hnm hnd => ?_⟩⟩⟩
    refine ⟨_, rfl, nl, _, rfl, .inl (SqL.of hnl), fun hl nh => ?_⟩
    have s12 : Same H1 (upd H1 hl (.lst (xs.map V.str))) := same_upd nh
    have hh2 : (upd H1 hl (.lst (xs.map V.str))) hl = some (.lst (xs.map V.str)) := upd_same
    generalize upd H1 hl (.lst (xs.map V.str)) = H2 at s12 hh2 ⊢
    refine ⟨_, rfl, fun x1 dx1 nx1 ndx1 ne1 => ?_⟩
    have s23 : Same H2 (upd (upd H2 dx1 (.own x1)) x1 (.ins C dx1 [])) := (same_upd ndx1).trans (same_upd (by rw [upd_ne ne1.symm]; exact nx1))
    refine ⟨x1, dx1, hl, xs, rfl, upd_same, SqL.of (s23 _ _ hh2), h1, h60, hnm, hnd, fun H4 dk1 kl1 kn1 nk1 nl1 b1 pm1 pw1 kp1 => ⟨rfl, ?_⟩⟩
    have s24 : Same H2 H4 := fun b ob h => kp1 b ob (s23 b ob h) (ne_of_none h nx1)
    have dk1n : H2 dk1 = none := s23.free nk1
    have kl1n : H2 kl1 = none := s23.free nl1
    have hnl4 := s24 _ _ (s12 _ _ hnl)
    refine ⟨_, rfl, nl, _, rfl, SqL.of hnl4, fun r nr => ?_⟩
    have s45 : Same H4 (upd H4 r (.lst (xs.map V.str).reverse)) := same_upd nr
    have hr5 : (upd H4 r (.lst (xs.map V.str).reverse)) r = some (.lst (xs.reverse.map V.str)) := by rw [upd_same, List.map_reverse]
    generalize upd H4 r (.lst (xs.map V.str).reverse) = H5 at s45 hr5 ⊢
    intro x2 dx2 nx2 ndx2 ne2
    have s56 : Same H5 (upd (upd H5 dx2 (.own x2)) x2 (.ins C dx2 [])) := (same_upd ndx2).trans (same_upd (by rw [upd_ne ne2.symm]; exact nx2))
    refine ⟨x2, dx2, r, xs.reverse, rfl, upd_same, SqL.of (s56 _ _ hr5), by rw [List.length_reverse]; exact h1, by rw [List.length_reverse]; exact h60, fun x hx => hnm x (List.mem_reverse.mp hx), (List.reverse_perm xs).nodup_iff.mpr hnd, fun H6 dk2 kl2 kn2 nk2 nl2 b2 pm2 pw2 kp2 => ⟨rfl, ?_⟩⟩
    have s56' : Same H5 H6 := fun b ob h => kp2 b ob (s56 b ob h) (ne_of_none h nx2)
    have s46 := s45.trans s56'
    have dk2n : H5 dk2 = none := s56.free nk2
    have kl2n : H5 kl2 = none := s56.free nl2
    have hnl6 := s46 _ _ hnl4
    have hh4 := s24 _ _ hh2
    have hh6 := s46 _ _ hh4
    have hh5 := s45 _ _ hh4
    have b16 := b1.same s46
    -- the handed list is cleared
    refine ⟨_, rfl, _, rfl, rNe_strs hnm (SqL.of hh6) (SqL.of hnl6) ⟨_, rfl, iteF ?_⟩⟩
    refine ⟨_, rfl, .inl ⟨rfl, _, SqL.of hh6⟩, hl, _, rfl, rfl, hh6, ?_⟩
    have k7 : ∀ b ob, H6 b = some ob → b ≠ hl → upd H6 hl (.lst []) b = some ob := fun b ob h hb => by rw [upd_ne hb]; exact h
    have s17 : Same H1 (upd H6 hl (.lst [])) := fun b ob h => k7 b ob (s46 _ _ (s24 _ _ (s12 _ _ h))) (ne_of_none h nh)
    have b17 := b16.but hh6 k7 (ne_of_none hh2 dk1n).symm (ne_of_none hh2 kl1n).symm
    have b27 := b2.but hh6 k7 (ne_of_none hh5 dk2n).symm (ne_of_none hh5 kl2n).symm
    generalize upd H6 hl (.lst []) = H7 at s17 b17 b27 ⊢
    have hnl7 := s17 _ _ hnl
    have hS7 := (s1.trans s17).seq hS
    obtain ⟨⟨dxa, hx1⟩, _⟩ := id b1
    have pp : x2 ≠ x1 := (ne_of_none (s45 _ _ hx1) nx2).symm
    -- deeds, ends
    refine ⟨Nat.zero_le _, fun dl ndl => ?_⟩
    have s78 : Same H7 (upd H7 dl (.lst [])) := same_upd ndl
    have hdl8 : (upd H7 dl (.lst [])) dl = some (.lst []) := upd_same
    generalize upd H7 dl (.lst []) = H8 at s78 hdl8 ⊢
    refine ⟨_, rfl, a, ns, 2, rfl, s78.seq hS7, fun z2 => ⟨_, _, rfl, rfl, (by show (0 : Int) < 61; decide), _, _, rfl, rfl, (by show 1 ≤ sizeLine; decide), fun el nel => ?_⟩⟩
    have s89 : Same H8 (upd H8 el (.lst [.int (z2 % 61 - 30)])) := same_upd nel
    have hel9 : (upd H8 el (.lst [.int (z2 % 61 - 30)])) el = some (.lst (([z2 % 61 - 30] : List Int).map V.int)) := upd_same
    generalize upd H8 el (.lst [.int (z2 % 61 - 30)]) = H9 at s89 hel9 ⊢
    refine ⟨fun σ' H' => ∃ (Hs : Hp) (sl : Addr) (cs : List Int) (kl : Addr) (M : List Row) (dv : List V) (ds : List Deed) (es : List Int) (y7 y8 y9 y10 y11 y12 : Option V),
      σ' = [some (.ref a), some (.ref nl), some (.ref hl), some (.ref x1), some (.ref x2), some (.ref dl), some (.ref el), y7, y8, y9, y10, y11, y12] ∧ ds.length ≤ 24 ∧ Fx C Hs x1 dk1 dl el nl sl x2 dk2 kl2 xs kn1 kn2 cs ∧ LI C Hs H' x1 dk1 dl el kn1 kl M dv ds es, ?_, ?_⟩
    · obtain ⟨cs, ecs, c24⟩ := cut24 ns
      have s79 := s78.trans s89
      refine ⟨_, rfl, _, rfl, _, rfl, a, _, rfl, s79.seq hS7, fun sl nsl => ?_⟩
      rw [ecs]
      have s9s : Same H9 (upd H9 sl (.lst (cs.map V.int))) := same_upd nsl
      have hsl : (upd H9 sl (.lst (cs.map V.int))) sl = some (.lst (cs.map V.int)) := upd_same
      generalize upd H9 sl (.lst (cs.map V.int)) = Hs at s9s hsl ⊢
      have s7s := s79.trans s9s
      have Fi : Fx C Hs x1 dk1 dl el nl sl x2 dk2 kl2 xs kn1 kn2 cs := by
        obtain ⟨⟨dx2', hx2'⟩, hk2, ys2, hkl2, hy2⟩ := id b27
        obtain ⟨⟨dx1', hx1'⟩, hk1, ys1, hkl1, hy1⟩ := id b17
        have hdl9 := s89 _ _ hdl8
        exact {
          nl_ := s7s _ _ hnl7
          sl_ := hsl
          b2 := b27.same s7s
          p1_ := ⟨_, _, s7s _ _ hx1'⟩
          el_ := ⟨_, s9s _ _ hel9⟩
          dl_ := ⟨_, s9s _ _ hdl9⟩
          nl1 := ne_of_none (s78 _ _ hnl7) nel
          nl2 := ne_of_none hnl7 ndl
          sl1 := (ne_of_none hel9 nsl).symm
          sl2 := (ne_of_none hdl9 nsl).symm
          dk21 := ne_of_none (s78 _ _ hk2) nel
          dk22 := ne_of_none hk2 ndl
          kl21 := ne_of_none (s78 _ _ hkl2) nel
          kl22 := ne_of_none hkl2 ndl
          dk11 := ne_of_none (s78 _ _ hk1) nel
          dk12 := ne_of_none hk1 ndl
          de := ne_of_none hdl8 nel
          pp := pp
          pm := pm1
          srt := pw1
          n1 := h1
          n60 := h60
          nm := hnm
          nd := hnd
          l2 := by rw [pm2.length_eq, List.length_reverse]; exact h60 }
      have Li : LI C Hs Hs x1 dk1 dl el kn1 kl1 [] [] [] [z2 % 61 - 30] := by
        obtain ⟨_, _, ys1, hkl1, _⟩ := id b17
        exact ⟨fun _ _ h _ _ _ => h, b17.same s7s, Map.nil, s9s _ _ (s89 _ _ hdl8), DeedsX.nil, s9s _ _ hel9, ne_of_none hkl1 ndl, ne_of_none (s78 _ _ hkl1) nel, rfl, Agree.nil⟩
      have nd1 : kn1.Nodup := pm1.nodup_iff.mpr hnd
      have hl1 : kn1.length ≤ 60 := by rw [pm1.length_eq]; exact h60
      refine ⟨sl, rfl, ⟨_, SqL.of hsl⟩, for_list (K := K) (a := sl) (xs := cs.map V.int) (fun i σ H' => ∃ (kl : Addr) (M : List Row) (dv : List V) (ds : List Deed) (es : List Int) (y7 y8 y9 y10 y11 y12 : Option V),
        σ = [some (.ref a), some (.ref nl), some (.ref hl), some (.ref x1), some (.ref x2), some (.ref dl), some (.ref el), y7, y8, y9, y10, y11, y12] ∧ ds.length = i ∧ LI C Hs H' x1 dk1 dl el kn1 kl M dv ds es)
        ⟨kl1, [], [], [], _, none, none, none, none, none, none, rfl, rfl, Li⟩ (fun i σ H' _ ⟨kl, M, dv, ds, es, _, _, _, _, _, _, _, _, L⟩ => SqL.of (Fi.lst L Fi.sl_ Fi.sl1 Fi.sl2)) ?_ ?_⟩
      · rintro i v σ Ha hi ⟨kl, M, dv, ds, es, y7, y8, y9, y10, y11, y12, rfl, hds, L⟩
        obtain ⟨c, hc, rfl⟩ : ∃ c, cs[i]? = some c ∧ v = V.int c := by
          rw [List.getElem?_map] at hi
          cases e : cs[i]? with
          | none => rw [e] at hi; cases hi
          | some x => rw [e] at hi; exact ⟨x, rfl, (Option.some.inj hi).symm⟩
        have hi24 : i < 24 := by have := (List.getElem?_eq_some_iff.mp hc).1; omega
        have hdv : dv.length = i := by rw [L.dd.len]; exact hds
        have hen := L.en
        -- the span
        refine ⟨_, rfl, _, rfl, dl, _, rfl, .inl (SqL.of L.dl_), _, rfl, c, dv.length, el, es, rfl, by omega, L.el_, (by intro z; rw [z] at hen; cases hen), by omega, fun Hb t l b lo be hlb hlo hbe hel nt ht kb => ?_⟩
        have hdlb := kb _ _ L.dl_ Fi.de
        have hnlb := kb _ _ (Fi.lst L Fi.nl_ Fi.nl1 Fi.nl2) Fi.nl1
        have b1 := emod_in (a := c * 50021 + (dv.length : Int) * 104729 + 3571) (b := 2147483587) (by decide)
        refine ⟨_, rfl, _, _, rfl, rfl, .inr ⟨by decide, by decide⟩, _, rfl, dl, _, rfl, .inl (SqL.of hdlb), _, _, rfl, rfl, .inr ⟨by decide, by decide⟩, _, _, rfl, rfl, _, _, rfl, rfl, _, _, rfl, rfl, (by show (0 : Int) < 2147483587; decide), ?_⟩
        refine ⟨fun σ' H' => ∃ m : Int, 0 ≤ m ∧ Hb = H' ∧ σ' = [some (.ref a), some (.ref nl), some (.ref hl), some (.ref x1), some (.ref x2), some (.ref dl), some (.ref el), some (.int c), some (.ref t), some (.int m), y10, y11, y12], ?_, ?_⟩
        · refine ⟨_, rfl, _, rfl, _, _, rfl, rfl, .inl ⟨by omega, by omega⟩, _, _, rfl, rfl, (by show (0 : Int) < 2147483563; decide), ?_⟩
          exact ⟨_, (emod_in (by decide)).1, rfl, rfl⟩
        rintro σ1 Hc ⟨m, hm, rfl, rfl⟩
        have hlx : (xs.map V.str).length = xs.length := List.length_map _
        have bi := emod_in (a := m / 3) (b := ((xs.map V.str).length : Int)) (by omega)
        obtain ⟨x, hx, hz⟩ := atI_str (xs := xs) bi.1 (by rw [← hlx]; exact bi.2)
        refine ⟨_, rfl, .inl ⟨rfl, _, SqL.of hdlb⟩, _, rfl, _, rfl, _, _, rfl, rfl, ⟨by decide, by decide⟩, _, rfl, nl, _, rfl, .inl (SqL.of hnlb), _, _, rfl, rfl, (by omega), nl, _, _, _, rfl, rfl, SqL.of hnlb, hz, _, rfl, ?_⟩
        refine ⟨_, rfl, _, _, rfl, rfl, (by show (0 : Int) < 3; decide), _, _, rfl, rfl, (by show 3 ≤ sizeLine; decide), fun t3 nt3 => ?_⟩
        have s3 := same_upd (o := .tup [.str x, .ref t, .bl (decide (0 < m % 3))]) nt3
        refine ⟨dl, _, _, rfl, rfl, s3 _ _ hdlb, small1000 (by omega), ?_⟩
        obtain ⟨keep4, bun4, ht4, hdl4, dd4, hel4, ht34⟩ := L.mid Fi kb hel ht nt3 rfl
        generalize upd (upd Hb t3 (.tup [.str x, .ref t, .bl (decide (0 < m % 3))])) dl (.lst (dv ++ [.ref t3])) = H4' at keep4 bun4 ht4 hdl4 dd4 hel4 ht34 ⊢
        obtain ⟨⟨dxb, hp4⟩, _⟩ := id bun4
        obtain ⟨ii, hix⟩ : ∃ ii, kn1[ii]? = some x := List.getElem?_of_mem (pm1.mem_iff.mpr hx)
        have okO : okS lo be := fun y z ey ez => by
          rcases hlo with q | q <;> rcases hbe with q' | q' <;> rw [q] at ey <;> rw [q'] at ez <;> cases ey <;> cases ez
          exact hlb
        have e1 : ∀ y, lo = some y → y ∈ es ++ [l, b] := fun y ey => by
          rcases hlo with q | q <;> rw [q] at ey <;> cases ey
          simp
        have e2 : ∀ y, be = some y → y ∈ es ++ [l, b] := fun y ey => by
          rcases hbe with q | q <;> rw [q] at ey <;> cases ey
          simp
        have hE : (es ++ [l, b]).length ≤ 299 := by
          rw [List.length_append]
          show es.length + 2 ≤ 299
          omega
        refine ⟨fun σ' H' => ∃ (kl' : Addr) (M' : List Row), σ' = [some (.ref a), some (.ref nl), some (.ref hl), some (.ref x1), some (.ref x2), some (.ref dl), some (.ref el), some (.int c), some (.ref t), some (.int m), some .non, y11, y12] ∧
          LI C Hs H' x1 dk1 dl el kn1 kl' M' (dv ++ [.ref t3]) (ds ++ [⟨x, lo, be, decide (0 < m % 3)⟩]) (es ++ [l, b]), ?_, ?_⟩
        · refine ⟨_, rfl, _, _, rfl, rfl, (by show (0 : Int) < 3; decide), _, _, rfl, rfl, _, rfl, ifB (fun hon => ?_) (fun hon => ?_)⟩
          · refine ⟨_, rfl, x1, dxb, _, rfl, hp4, flds_no _ _ (by decide +kernel) (by decide +kernel), _, rfl, _, rfl, dl, _, _, _, rfl, rfl, SqL.of hdl4, atI_last _ _, t3, _, _, _, rfl, rfl, SqT.of ht34, at_of (j := 0) rfl rfl, _, rfl, ?_⟩
            refine ⟨x1, dk1, kl, t, kn1, M, x, ii, lo, be, es ++ [l, b], rfl, bun4, hix, nd1, hl1, SqT.of ht4, okO, L.map.more _, e1, e2, hE, fun H5 kl' M' nkl hb5 m5 te kp5 => ?_⟩
            refine ⟨kl', M', rfl, LI.next Fi L.en keep4 bun4 hdl4 dd4 hel4 nkl hb5 m5 kp5 ?_⟩
            rw [hon]
            exact L.ag.lay nd1 hix te
          · refine ⟨_, rfl, x1, dxb, _, rfl, hp4, flds_no _ _ (by decide +kernel) (by decide +kernel), _, rfl, _, rfl, dl, _, _, _, rfl, rfl, SqL.of hdl4, atI_last _ _, t3, _, _, _, rfl, rfl, SqT.of ht34, at_of (j := 0) rfl rfl, _, rfl, ?_⟩
            refine ⟨x1, dk1, kl, t, kn1, M, x, ii, lo, be, es ++ [l, b], rfl, bun4, hix, nd1, hl1, SqT.of ht4, okO, L.map.more _, e1, e2, hE, fun H5 kl' M' nkl hb5 m5 te kp5 => ?_⟩
            refine ⟨kl', M', rfl, LI.next Fi L.en keep4 bun4 hdl4 dd4 hel4 nkl hb5 m5 kp5 ?_⟩
            rw [hon]
            exact L.ag.lift nd1 hix te
        rintro σ2 H5 ⟨kl', M', rfl, L5⟩
        have hl5 : (ds ++ [(⟨x, lo, be, decide (0 < m % 3)⟩ : Deed)]).length = i + 1 := by rw [List.length_append, hds]; rfl
        refine ⟨_, rfl, rfl, _, rfl, iteF ?_⟩
        have hat : atI ((es ++ [l, b]).map V.int) (-1) = some (V.int b) := by
          rw [show es ++ [l, b] = (es ++ [l]) ++ [b] from by simp, List.map_append]
          exact atI_last _ _
        refine ⟨_, rfl, _, rfl, el, _, _, _, rfl, rfl, SqL.of L5.el_, hat, _, rfl, _, _, rfl, rfl, ⟨by decide, by decide⟩, _, _, rfl, rfl, (by show (0 : Int) < 2; decide), _, _, rfl, rfl, ?_⟩
        refine chk1 Fi L5 (by omega) rfl rfl rfl rfl fun H6' s6 => ⟨_, rfl, iteF ?_⟩
        exact ⟨kl', M', _, _, _, _, _, _, _, _, _, rfl, hl5, L5.same s6⟩
      · rintro σ Ha ⟨kl, M, dv, ds, es, y7, y8, y9, y10, y11, y12, rfl, hds, L⟩
        exact ⟨Hs, sl, cs, kl, M, dv, ds, es, y7, y8, y9, y10, y11, y12, rfl, by rw [hds, List.length_map]; exact c24, Fi, L⟩
    -- the second loop
    rintro σ2 Ha ⟨Hs, sl, cs, kl, M, dv, ds, es, y7, y8, y9, y10, y11, y12, rfl, h24, Fi, L⟩
    have hen := L.en
    refine ⟨fun _ _ => True, ?_, fun σ' H' _ => k H'⟩
    have hlm : (es.map V.int).length = es.length := List.length_map _
    refine ⟨_, rfl, _, rfl, el, rfl, ⟨_, SqL.of L.el_⟩, fun D nD => lc_all (walk_list (xs := es.map V.int)) (fun i H' => Lc Ha D ((es.take i).map fun z => V.int (z - 1)) H') (Lc.zero nD) (fun i H' _ l => l.same.seq (SqL.of L.el_)) ?_ ?_⟩
    · rintro i v Hb Hc hi l ⟨rfl, hv⟩
      obtain ⟨z, hz, rfl⟩ : ∃ z, es[i]? = some z ∧ v = V.int z := by
        rw [List.getElem?_map] at hv
        cases e : es[i]? with
        | none => rw [e] at hv; cases hv
        | some x => rw [e] at hv; exact ⟨x, rfl, (Option.some.inj hv).symm⟩
      refine ⟨rfl, _, rfl, _, _, rfl, rfl, _, l.at_, ?_, ?_⟩
      · rw [List.length_map, List.length_take]
        exact small1000 (by omega)
      · rw [take_snoc hz, List.map_append]
        exact l.more nD (Same.refl _) _
    intro Hb l
    have hD := l.at_
    rw [hlm, List.take_length, show (es.map fun z => V.int (z - 1)) = (es.map fun z => z - 1).map V.int by rw [List.map_map]; rfl] at hD
    refine ⟨el, D, es.map V.int, (es.map fun z => z - 1).map V.int, rfl, rfl, l.same _ _ L.el_, hD, by rw [List.length_map, List.length_map, List.length_map]; exact Nat.le_of_lt (small1000 (by omega)), fun p np => ?_⟩
    have s1p : Same Hb (upd Hb p (.lst (es.map V.int ++ (es.map fun z => z - 1).map V.int))) := same_upd np
    refine ⟨p, es ++ es.map (fun z => z - 1), rfl, by rw [List.map_append]; exact SqL.of upd_same, by rw [List.length_append, List.length_map]; omega, fun ms q _ _ nq => ?_⟩
    have s2p := l.same.trans (s1p.trans (same_upd (o := .lst (ms.map V.int)) nq))
    generalize eq : upd (upd Hb p (.lst (es.map V.int ++ (es.map fun z => z - 1).map V.int))) q (.lst (ms.map V.int)) = Hq at s2p ⊢
    have hq : Hq q = some (.lst (ms.map V.int)) := by rw [← eq]; exact upd_same
    have Lq := L.same s2p
    refine ⟨q, rfl, ⟨_, SqL.of hq⟩, for_list (K := K) (a := q) (xs := ms.map V.int) (fun i σ H' => ∃ (y11 : Option V), σ = [some (.ref a), some (.ref nl), some (.ref hl), some (.ref x1), some (.ref x2), some (.ref dl), some (.ref el), y7, y8, y9, y10, y11, y12] ∧ Same Hq H')
      ⟨y11, rfl, Same.refl _⟩ (fun i σ H' _ ⟨_, _, s'⟩ => s'.seq (SqL.of hq)) ?_ (fun _ _ _ => trivial)⟩
    rintro i v σ Hd hi ⟨y11', rfl, sd⟩
    obtain ⟨c, hc, rfl⟩ : ∃ c, ms[i]? = some c ∧ v = V.int c := by
      rw [List.getElem?_map] at hi
      cases e : ms[i]? with
      | none => rw [e] at hi; cases hi
      | some x => rw [e] at hi; exact ⟨x, rfl, (Option.some.inj hi).symm⟩
    refine chk1 Fi (Lq.same sd) h24 rfl rfl rfl rfl fun He se => ⟨_, rfl, iteF ?_⟩
    refine chk2 Fi ((Lq.same sd).same se) rfl rfl fun Hf sf => ⟨_, rfl, iteF ?_⟩
    exact ⟨_, rfl, sd.trans (se.trans sf)⟩
end
end Sm

namespace Sm
open PySem L2
/-! ### the end -/
section
variable {K : PySem.W.Frag} {mg : Str → Option Value} {h : Heap} {f C : Addr} {fd : FuncData}
theorem bindLater (F : Fun K "later" "later" sLater f fd) : Binds K fd ["one", "other"] [] := F.binds (ps := ["one", "other"]) fun _ _ _ _ _ _ us hl => match us, hl with | [_, _], _ => rfl
theorem bindEarlier (F : Fun K "earlier" "earlier" sEarlier f fd) : Binds K fd ["one", "other"] [] := F.binds (ps := ["one", "other"]) fun _ _ _ _ _ _ us hl => match us, hl with | [_, _], _ => rfl
theorem bindIsSpan (F : Fun K "is_span" "is_span" sIsSpan f fd) : Binds K fd ["low", "behind"] [] := F.binds (ps := ["low", "behind"]) fun _ _ _ _ _ _ us hl => match us, hl with | [_, _], _ => rfl
theorem bindMeet (F : Fun K "meet" "meet" sMeet f fd) : Binds K fd ["one", "other"] [] := F.binds (ps := ["one", "other"]) fun _ _ _ _ _ _ us hl => match us, hl with | [_, _], _ => rfl
theorem bindBegun (F : Fun K "begun_by" "begun_by" sBegun f fd) : Binds K fd ["pieces", "place"] [] := F.binds (ps := ["pieces", "place"]) fun _ _ _ _ _ _ us hl => match us, hl with | [_, _], _ => rfl
theorem bindValue (F : Fun K "value_at" "value_at" sValue f fd) : Binds K fd ["pieces", "place"] [] := F.binds (ps := ["pieces", "place"]) fun _ _ _ _ _ _ us hl => match us, hl with | [_, _], _ => rfl
theorem bindKnit (F : Fun K "knit" "knit" sKnit f fd) : Binds K fd ["rows"] [] := F.binds (ps := ["rows"]) fun _ _ _ _ _ _ us hl => match us, hl with | [_], _ => rfl
theorem bindWhole (F : Fun K "whole" "whole" sWhole f fd) : Binds K fd ["pieces"] [] := F.binds (ps := ["pieces"]) fun _ _ _ _ _ _ us hl => match us, hl with | [_], _ => rfl
theorem bindJoined (F : Fun K "joined" "joined" sJoined f fd) : Binds K fd ["one", "other", "way"] [] := F.binds (ps := ["one", "other", "way"]) fun _ _ _ _ _ _ us hl => match us, hl with | [_, _, _], _ => rfl
theorem bindWith (F : Fun K "with_bits" "with_bits" sWith f fd) : Binds K fd ["one", "other"] [] := F.binds (ps := ["one", "other"]) fun _ _ _ _ _ _ us hl => match us, hl with | [_, _], _ => rfl
theorem bindWithout (F : Fun K "without_bits" "without_bits" sWithout f fd) : Binds K fd ["one", "other"] [] := F.binds (ps := ["one", "other"]) fun _ _ _ _ _ _ us hl => match us, hl with | [_, _], _ => rfl
theorem bindIsName (F : Fun K "is_name" "is_name" sIsName f fd) : Binds K fd ["thing"] [] := F.binds (ps := ["thing"]) fun _ _ _ _ _ _ us hl => match us, hl with | [_], _ => rfl
theorem bindCellAt (F : Fun K "_law_cell_at" "_law_cell_at" sCellAt f fd) : Binds K fd ["_law_script", "_law_k"] [] := F.binds (ps := ["_law_script", "_law_k"]) fun _ _ _ _ _ _ us hl => match us, hl with | [_, _], _ => rfl
theorem bindNames (F : Fun K "_law_names" "_law_names" sNames f fd) : Binds K fd ["_law_head", "_law_cell"] [] := F.binds (ps := ["_law_head", "_law_cell"]) fun _ _ _ _ _ _ us hl => match us, hl with | [_, _], _ => rfl
theorem bindGreat (F : Fun K "_law_great" "_law_great" sGreat f fd) : Binds K fd ["_law_cell"] [] := F.binds (ps := ["_law_cell"]) fun _ _ _ _ _ _ us hl => match us, hl with | [_], _ => rfl
theorem bindOver (F : Fun K "_law_over" "_law_over" sOver f fd) : Binds K fd ["_law_cell", "_law_k", "_law_ends"] [] := F.binds (ps := ["_law_cell", "_law_k", "_law_ends"]) fun _ _ _ _ _ _ us hl => match us, hl with | [_, _, _], _ => rfl
theorem bindHas (F : Fun K "_law_has" "_law_has" sHas f fd) : Binds K fd ["_law_over_here", "_law_place"] [] := F.binds (ps := ["_law_over_here", "_law_place"]) fun _ _ _ _ _ _ us hl => match us, hl with | [_, _], _ => rfl
theorem bindDue (F : Fun K "_law_due" "_law_due" sDue f fd) : Binds K fd ["_law_deeds", "_law_names_here", "_law_place"] [] := F.binds (ps := ["_law_deeds", "_law_names_here", "_law_place"]) fun _ _ _ _ _ _ us hl => match us, hl with | [_, _, _], _ => rfl
theorem bindIs (F : Fun K "_law_is" "_law_is" sIs f fd) : Binds K fd ["_law_found", "_law_due_here"] [] := F.binds (ps := ["_law_found", "_law_due_here"]) fun _ _ _ _ _ _ us hl => match us, hl with | [_, _], _ => rfl
theorem bindInit (F : Fun K "__init__" "Bundle.__init__" sInit f fd) : Binds K fd ["self", "names"] [] := F.binds (ps := ["self", "names"]) fun _ _ _ _ _ _ us hl => match us, hl with | [_, _], _ => rfl
theorem bindNumber (F : Fun K "number_of" "Bundle.number_of" sNumber f fd) : Binds K fd ["self", "name"] [] := F.binds (ps := ["self", "name"]) fun _ _ _ _ _ _ us hl => match us, hl with | [_, _], _ => rfl
theorem bindLay (F : Fun K "lay" "Bundle.lay" sLay f fd) : Binds K fd ["self", "name", "over"] [] := F.binds (ps := ["self", "name", "over"]) fun _ _ _ _ _ _ us hl => match us, hl with | [_, _, _], _ => rfl
theorem bindLift (F : Fun K "lift" "Bundle.lift" sLift f fd) : Binds K fd ["self", "name", "over"] [] := F.binds (ps := ["self", "name", "over"]) fun _ _ _ _ _ _ us hl => match us, hl with | [_, _, _], _ => rfl
theorem bindNamesAt (F : Fun K "names_at" "Bundle.names_at" sNamesAt f fd) : Binds K fd ["self", "place"] [] := F.binds (ps := ["self", "place"]) fun _ _ _ _ _ _ us hl => match us, hl with | [_, _], _ => rfl
theorem dfn_mk {x : Str} {ps : List Str} {st : Stmt} {oc kV dc pm cd ct : Value} {od an : Option Addr} {sl : Array (Option Value)} (b : ∀ {fd : FuncData}, Fun K x x st f fd → Binds K fd ps []) (X : K.In h) (G : h.Ns mainGlobals mg)
    (a : PySem.W.nsIn K mainGlobals x = some (some (.ref f))) (l : K.lookup f = some ⟨oc, od, .func (PySem.W.fnOf x x (defArgs st) (defBody st) (defScope st) .none kV dc pm an cd ct), sl⟩) (c : PySem.W.codeIn K cd x = true) (k : PySem.W.keepIn K (.ref f) = true) :
    Dfn K mg x ps st f (PySem.W.fnOf x x (defArgs st) (defBody st) (defScope st) .none kV dc pm an cd ct) := ⟨fun_mk l c k, PySem.W.mg_of X G a, b (fun_mk l c k)⟩
/-- a def of a class -/
structure Mth (K : PySem.W.Frag) (C : Addr) (m q : Str) (ps : List Str) (st : Stmt) (f : Addr) (fd : FuncData) : Prop where
  at_ : Meth K C m f
  fn : Fun K m q st f fd
  b : Binds K fd ps []
theorem mth_mk {m q : Str} {ps : List Str} {st : Stmt} {oc kV dc pm cd ct : Value} {od an : Option Addr} {sl : Array (Option Value)} (b : ∀ {fd : FuncData}, Fun K m q st f fd → Binds K fd ps [])
    (a : PySem.W.findIn K (.ref C) m = some (some (.ref f))) (i : PySem.W.isFn K (.ref f) = true) (l : K.lookup f = some ⟨oc, od, .func (PySem.W.fnOf m q (defArgs st) (defBody st) (defScope st) .none kV dc pm an cd ct), sl⟩) (c : PySem.W.codeIn K cd q = true) (k : PySem.W.keepIn K (.ref f) = true) :
    Mth K C m q ps st f (PySem.W.fnOf m q (defArgs st) (defBody st) (defScope st) .none kV dc pm an cd ct) := ⟨⟨a, i, k⟩, fun_mk l c k, b (fun_mk l c k)⟩
theorem Mth.met {P : Program} {w : World} {base : Heap} {k : Nat} {m q : Str} {ps : List Str} {st : Stmt} {sp : Sp} (D : Mth K C m q ps st f fd) (B : BT K mg C) (G : FnOk P w K mg base CX0 k f fd ps sp) : Met P w K mg base k C m sp := ⟨f, fd, ps, B.cl, D.at_, G, D.b⟩
end
theorem all_mk {l : PySem.W.OpenLaw} {w : World} {K : PySem.W.Frag} {h : Heap} {mg : Str → Option Value} {fa C fL : Addr} {tL tM : Tok} {ocL kVL dcL pmL cdL ctL : Value} {odL anL : Option Addr} {slL : Array (Option Value)}
    {fLater fEarlier fIsSpan fMeet fBegun fValue fKnit fWhole fJoined fWith fWithout fIsName fCellAt fNames fGreat fOver fHas fDue fIs fInit fNumber fLay fLift fNamesAt : Addr} {dLater dEarlier dIsSpan dMeet dBegun dValue dKnit dWhole dJoined dWith dWithout dIsName dCellAt dNames dGreat dOver dHas dDue dIs dInit dNumber dLay dLift dNamesAt : FuncData}
    (X : K.In h) (G : h.Ns mainGlobals mg) (hfa : mg "law" = some (.ref fa))
    (DLater : Dfn K mg "later" ["one", "other"] sLater fLater dLater)
    (DEarlier : Dfn K mg "earlier" ["one", "other"] sEarlier fEarlier dEarlier)
    (DIsSpan : Dfn K mg "is_span" ["low", "behind"] sIsSpan fIsSpan dIsSpan)
    (DMeet : Dfn K mg "meet" ["one", "other"] sMeet fMeet dMeet)
    (DBegun : Dfn K mg "begun_by" ["pieces", "place"] sBegun fBegun dBegun)
    (DValue : Dfn K mg "value_at" ["pieces", "place"] sValue fValue dValue)
    (DKnit : Dfn K mg "knit" ["rows"] sKnit fKnit dKnit)
    (DWhole : Dfn K mg "whole" ["pieces"] sWhole fWhole dWhole)
    (DJoined : Dfn K mg "joined" ["one", "other", "way"] sJoined fJoined dJoined)
    (DWith : Dfn K mg "with_bits" ["one", "other"] sWith fWith dWith)
    (DWithout : Dfn K mg "without_bits" ["one", "other"] sWithout fWithout dWithout)
    (DIsName : Dfn K mg "is_name" ["thing"] sIsName fIsName dIsName)
    (DCellAt : Dfn K mg "_law_cell_at" ["_law_script", "_law_k"] sCellAt fCellAt dCellAt)
    (DNames : Dfn K mg "_law_names" ["_law_head", "_law_cell"] sNames fNames dNames)
    (DGreat : Dfn K mg "_law_great" ["_law_cell"] sGreat fGreat dGreat)
    (DOver : Dfn K mg "_law_over" ["_law_cell", "_law_k", "_law_ends"] sOver fOver dOver)
    (DHas : Dfn K mg "_law_has" ["_law_over_here", "_law_place"] sHas fHas dHas)
    (DDue : Dfn K mg "_law_due" ["_law_deeds", "_law_names_here", "_law_place"] sDue fDue dDue)
    (DIs : Dfn K mg "_law_is" ["_law_found", "_law_due_here"] sIs fIs dIs)
    (aC : PySem.W.nsIn K mainGlobals "Bundle" = some (some (.ref C)))
    (MInit : Mth K C "__init__" "Bundle.__init__" ["self", "names"] sInit fInit dInit)
    (MNumber : Mth K C "number_of" "Bundle.number_of" ["self", "name"] sNumber fNumber dNumber)
    (MLay : Mth K C "lay" "Bundle.lay" ["self", "name", "over"] sLay fLay dLay)
    (MLift : Mth K C "lift" "Bundle.lift" ["self", "name", "over"] sLift fLift dLift)
    (MNamesAt : Mth K C "names_at" "Bundle.names_at" ["self", "place"] sNamesAt fNamesAt dNamesAt)
    (aL : PySem.W.nsIn K mainGlobals "law" = some (some (.ref fL))) (lL : K.lookup fL = some ⟨ocL, odL, .func (PySem.W.fnOf "law" "law" (defArgs sLaw) (defBody sLaw) (defScope sLaw) .none kVL dcL pmL anL cdL ctL), slL⟩) (cL : PySem.W.codeIn K cdL "law" = true) (kL : PySem.W.keepIn K (.ref fL) = true)
    (pg : PySem.W.plainGet K C Str.empty = true) (hd : PySem.W.hasDictIn K C = true) (po : PySem.W.plainOver K C = true) (sa : PySem.W.findIn K (.ref C) "__setattr__" = some (some (.builtin "object.__setattr__"))) (mk : PySem.W.makesIn K C = true) (kc : PySem.W.keepIn K (.ref C) = true)
    (nKn : PySem.W.findIn K (.ref C) "known" = some none) (nKe : PySem.W.findIn K (.ref C) "kept" = some none)
    (aLe : PySem.W.nsIn K mainGlobals "LETTERS" = some (some (.str letters tL))) (aMo : PySem.W.nsIn K mainGlobals "MOST_NAMES" = some (some (.int 60 tM)))
    (z_len : PySem.W.nsIn K mainGlobals "len" = some none)
    (z_all : PySem.W.nsIn K mainGlobals "all" = some none)
    (z_sorted : PySem.W.nsIn K mainGlobals "sorted" = some none)
    (z_set : PySem.W.nsIn K mainGlobals "set" = some none)
    (z_list : PySem.W.nsIn K mainGlobals "list" = some none)
    (z_reversed : PySem.W.nsIn K mainGlobals "reversed" = some none)
    (z_range : PySem.W.nsIn K mainGlobals "range" = some none)
    (z_enumerate : PySem.W.nsIn K mainGlobals "enumerate" = some none)
    (z_isinstance : PySem.W.nsIn K mainGlobals "isinstance" = some none)
    (z_str : PySem.W.nsIn K mainGlobals "str" = some none)
    (z_int : PySem.W.nsIn K mainGlobals "int" = some none)
    (z_min : PySem.W.nsIn K mainGlobals "min" = some none)
    (z_max : PySem.W.nsIn K mainGlobals "max" = some none)
    : ∃ fd : FuncData, (∀ (s : Shared) (v : Value), BindsTo s fd ⟨[v], []⟩ [("_law_script", v)]) ∧ ∀ base : Heap, K.In base → base.Ns mainGlobals mg → FnOk l.prog w K mg base CX0 5 fa fd ["_law_script"] (spLaw K) := by
  have e := hfa.symm.trans (PySem.W.mg_of X G aL)
  cases e
  have T : Bi mg := ⟨PySem.W.mg_none_of X G z_len, PySem.W.mg_none_of X G z_all, PySem.W.mg_none_of X G z_sorted, PySem.W.mg_none_of X G z_set, PySem.W.mg_none_of X G z_list, PySem.W.mg_none_of X G z_reversed, PySem.W.mg_none_of X G z_range, PySem.W.mg_none_of X G z_enumerate, PySem.W.mg_none_of X G z_isinstance, PySem.W.mg_none_of X G z_str, PySem.W.mg_none_of X G z_int, PySem.W.mg_none_of X G z_min, PySem.W.mg_none_of X G z_max⟩
  have BB : BT K mg C := ⟨⟨pg, hd, po, sa⟩, nKn, nKe, PySem.W.mg_of X G aC⟩
  refine ⟨PySem.W.fnOf "law" "law" (defArgs sLaw) (defBody sLaw) (defScope sLaw) .none kVL dcL pmL anL cdL ctL, fun s v => .of_eq rfl, fun base _ _ => ?_⟩
  have cLater := DLater.cal (P := l.prog) (w := w) (base := base) (ok_later DLater.fn T)
  have cEarlier := DEarlier.cal (P := l.prog) (w := w) (base := base) (ok_earlier DEarlier.fn T)
  have cIsSpan := DIsSpan.cal (P := l.prog) (w := w) (base := base) (ok_isspan DIsSpan.fn)
  have cMeet := DMeet.cal (ok_meet DMeet.fn cLater cEarlier cIsSpan)
  have cBegun := DBegun.cal (P := l.prog) (w := w) (base := base) (ok_begun DBegun.fn T)
  have cValue := DValue.cal (ok_value DValue.fn cBegun)
  have cKnit := DKnit.cal (P := l.prog) (w := w) (base := base) (ok_knit DKnit.fn)
  have cWhole := DWhole.cal (P := l.prog) (w := w) (base := base) (ok_whole DWhole.fn)
  have cJ1 := DJoined.cal (ok_joined DJoined.fn T cWhole cMeet cKnit (ok_with DWith.fn) DWith.fn.kp DWith.b)
  have cJ2 := DJoined.cal (ok_joined DJoined.fn T cWhole cMeet cKnit (ok_without DWithout.fn) DWithout.fn.kp DWithout.b)
  have cIsName := DIsName.cal (P := l.prog) (w := w) (base := base) (ok_isname DIsName.fn T ⟨tL, PySem.W.mg_of X G aLe⟩)
  have cCell := DCellAt.cal (P := l.prog) (w := w) (base := base) (ok_cell DCellAt.fn T)
  have cNames := DNames.cal (P := l.prog) (w := w) (base := base) (ok_names DNames.fn T)
  have cGreat := DGreat.cal (P := l.prog) (w := w) (base := base) (ok_great DGreat.fn)
  have cOver := DOver.cal (ok_over DOver.fn T cGreat)
  have cHas := DHas.cal (P := l.prog) (w := w) (base := base) (ok_has DHas.fn)
  have cDue := DDue.cal (ok_due DDue.fn T cHas)
  have cIs := DIs.cal (P := l.prog) (w := w) (base := base) (ok_is DIs.fn T)
  have mNumber := MNumber.met (P := l.prog) (w := w) (base := base) BB (ok_number MNumber.fn BB)
  have mLay := MLay.met BB (ok_lay MLay.fn BB mNumber cJ1 DWith.mgf)
  have mLift := MLift.met BB (ok_lift MLift.fn BB mNumber cJ2 DWithout.mgf)
  have mNamesAt := MNamesAt.met BB (ok_names_at MNamesAt.fn T BB cValue)
  have mI : Mak l.prog w K mg base 2 C "Bundle" (spInit K C) := ⟨fInit, dInit, _, ⟨mk, MInit.at_.at_, MInit.at_.fn, kc⟩, ok_init MInit.fn T BB cIsName ⟨tM, PySem.W.mg_of X G aMo⟩, PySem.W.mg_of X G aC, MInit.b⟩
  exact ok_law (fun_mk (st := sLaw) lL cL kL) T BB mI cCell cNames cOver cDue cIs mLay mLift mNamesAt
theorem walk {l : PySem.W.OpenLaw} {q : Program} {loose : List Str} {XP : (Str → Option Value) → Heap → Prop} {YP : World → Heap → Prop} {d : DefRec} {K : Params → PySem.W.Frag} (hn : l.most = some 63) (hdf : d.params.defaults = [])
    (hY : ∀ (w : World) (h : Heap), YP w h → (K w.params).In h)
    (F : ∀ (w : World) (mg : Str → Option Value) (fa : Addr) (h : Heap), (K w.params).In h → h.Ns mainGlobals mg → mg d.name = some (.ref fa) →
      ∃ fd : FuncData, (∀ (s : Shared) (u : Value), BindsTo s fd ⟨[u], []⟩ [("_law_script", u)]) ∧ ∀ base : Heap, (K w.params).In base → base.Ns mainGlobals mg → FnOk l.prog w (K w.params) mg base CX0 5 fa fd ["_law_script"] (spLaw (K w.params))) :
    PySem.W.WalkO q loose XP YP l.row.toRowW d [] (fun f vs => PySem.call f vs) :=
  L2.walk_of (n := 63) (k := 5) (x := "_law_script") (CX := fun _ => CX0) (sp := fun w => spLaw (K w.params)) hn (by decide) hdf ⟨rfl, by decide, by decide⟩ hY F (fun _ _ a ns hl _ hS => ⟨a, ns, rfl, hS, hl, fun _ => rfl⟩) fun _ _ _ _ _ z => z
end Sm

open PySem PySem.W PyProof.Rows in
set_option maxRecDepth 100000 in
set_option maxHeartbeats 0 in
theorem PySem.Challenge.cw_spanmap_k73_names_at_holds : PySem.Challenge.rw_spanmap_k73_names_at.Holds := by
  w_on; o_law; k_head; (case hw => w_witness2)
  k_fill
  refine Sm.walk (l := PySem.Challenge.rw_spanmap_k73_names_at) rfl rfl (fun w h Y => PySem.W.kIn_of Y) ?F
  case F =>
    intro w mg fa h KX G hmg
    refine' Sm.all_mk KX G hmg (Sm.dfn_mk Sm.bindLater KX G ?aLater ?lLater ?cLater ?kLater) (Sm.dfn_mk Sm.bindEarlier KX G ?aEarlier ?lEarlier ?cEarlier ?kEarlier) (Sm.dfn_mk Sm.bindIsSpan KX G ?aIsSpan ?lIsSpan ?cIsSpan ?kIsSpan) (Sm.dfn_mk Sm.bindMeet KX G ?aMeet ?lMeet ?cMeet ?kMeet) (Sm.dfn_mk Sm.bindBegun KX G ?aBegun ?lBegun ?cBegun ?kBegun) (Sm.dfn_mk Sm.bindValue KX G ?aValue ?lValue ?cValue ?kValue) (Sm.dfn_mk Sm.bindKnit KX G ?aKnit ?lKnit ?cKnit ?kKnit) (Sm.dfn_mk Sm.bindWhole KX G ?aWhole ?lWhole ?cWhole ?kWhole) (Sm.dfn_mk Sm.bindJoined KX G ?aJoined ?lJoined ?cJoined ?kJoined) (Sm.dfn_mk Sm.bindWith KX G ?aWith ?lWith ?cWith ?kWith) (Sm.dfn_mk Sm.bindWithout KX G ?aWithout ?lWithout ?cWithout ?kWithout) (Sm.dfn_mk Sm.bindIsName KX G ?aIsName ?lIsName ?cIsName ?kIsName) (Sm.dfn_mk Sm.bindCellAt KX G ?aCellAt ?lCellAt ?cCellAt ?kCellAt) (Sm.dfn_mk Sm.bindNames KX G ?aNames ?lNames ?cNames ?kNames) (Sm.dfn_mk Sm.bindGreat KX G ?aGreat ?lGreat ?cGreat ?kGreat) (Sm.dfn_mk Sm.bindOver KX G ?aOver ?lOver ?cOver ?kOver) (Sm.dfn_mk Sm.bindHas KX G ?aHas ?lHas ?cHas ?kHas) (Sm.dfn_mk Sm.bindDue KX G ?aDue ?lDue ?cDue ?kDue) (Sm.dfn_mk Sm.bindIs KX G ?aIs ?lIs ?cIs ?kIs) ?aC (Sm.mth_mk Sm.bindInit ?aInit ?iInit ?lInit ?cInit ?kInit) (Sm.mth_mk Sm.bindNumber ?aNumber ?iNumber ?lNumber ?cNumber ?kNumber) (Sm.mth_mk Sm.bindLay ?aLay ?iLay ?lLay ?cLay ?kLay) (Sm.mth_mk Sm.bindLift ?aLift ?iLift ?lLift ?cLift ?kLift) (Sm.mth_mk Sm.bindNamesAt ?aNamesAt ?iNamesAt ?lNamesAt ?cNamesAt ?kNamesAt) ?aL ?lL ?cL ?kL ?pg ?hd ?po ?sa ?mk ?kc ?nKn ?nKe ?aLe ?aMo ?z_len ?z_all ?z_sorted ?z_set ?z_list ?z_reversed ?z_range ?z_enumerate ?z_isinstance ?z_str ?z_int ?z_min ?z_max
    (case aLater => k_is)
    (case lLater => k_is)
    (case cLater => k_is)
    (case kLater => k_is)
    (case aEarlier => k_is)
    (case lEarlier => k_is)
    (case cEarlier => k_is)
    (case kEarlier => k_is)
    (case aIsSpan => k_is)
    (case lIsSpan => k_is)
    (case cIsSpan => k_is)
    (case kIsSpan => k_is)
    (case aMeet => k_is)
    (case lMeet => k_is)
    (case cMeet => k_is)
    (case kMeet => k_is)
    (case aBegun => k_is)
    (case lBegun => k_is)
    (case cBegun => k_is)
    (case kBegun => k_is)
    (case aValue => k_is)
    (case lValue => k_is)
    (case cValue => k_is)
    (case kValue => k_is)
    (case aKnit => k_is)
    (case lKnit => k_is)
    (case cKnit => k_is)
    (case kKnit => k_is)
    (case aWhole => k_is)
    (case lWhole => k_is)
    (case cWhole => k_is)
    (case kWhole => k_is)
    (case aJoined => k_is)
    (case lJoined => k_is)
    (case cJoined => k_is)
    (case kJoined => k_is)
    (case aWith => k_is)
    (case lWith => k_is)
    (case cWith => k_is)
    (case kWith => k_is)
    (case aWithout => k_is)
    (case lWithout => k_is)
    (case cWithout => k_is)
    (case kWithout => k_is)
    (case aIsName => k_is)
    (case lIsName => k_is)
    (case cIsName => k_is)
    (case kIsName => k_is)
    (case aCellAt => k_is)
    (case lCellAt => k_is)
    (case cCellAt => k_is)
    (case kCellAt => k_is)
    (case aNames => k_is)
    (case lNames => k_is)
    (case cNames => k_is)
    (case kNames => k_is)
    (case aGreat => k_is)
    (case lGreat => k_is)
    (case cGreat => k_is)
    (case kGreat => k_is)
    (case aOver => k_is)
    (case lOver => k_is)
    (case cOver => k_is)
    (case kOver => k_is)
    (case aHas => k_is)
    (case lHas => k_is)
    (case cHas => k_is)
    (case kHas => k_is)
    (case aDue => k_is)
    (case lDue => k_is)
    (case cDue => k_is)
    (case kDue => k_is)
    (case aIs => k_is)
    (case lIs => k_is)
    (case cIs => k_is)
    (case kIs => k_is)
    (case aC => k_is)
    (case aInit => k_is)
    (case iInit => k_is)
    (case lInit => k_is)
    (case cInit => k_is)
    (case kInit => k_is)
    (case aNumber => k_is)
    (case iNumber => k_is)
    (case lNumber => k_is)
    (case cNumber => k_is)
    (case kNumber => k_is)
    (case aLay => k_is)
    (case iLay => k_is)
    (case lLay => k_is)
    (case cLay => k_is)
    (case kLay => k_is)
    (case aLift => k_is)
    (case iLift => k_is)
    (case lLift => k_is)
    (case cLift => k_is)
    (case kLift => k_is)
    (case aNamesAt => k_is)
    (case iNamesAt => k_is)
    (case lNamesAt => k_is)
    (case cNamesAt => k_is)
    (case kNamesAt => k_is)
    (case aL => k_is)
    (case lL => k_is)
    (case cL => k_is)
    (case kL => k_is)
    (case pg => k_is)
    (case hd => k_is)
    (case po => k_is)
    (case sa => k_is)
    (case mk => k_is)
    (case kc => k_is)
    (case nKn => k_is)
    (case nKe => k_is)
    (case aLe => k_is)
    (case aMo => k_is)
    (case z_len => k_is)
    (case z_all => k_is)
    (case z_sorted => k_is)
    (case z_set => k_is)
    (case z_list => k_is)
    (case z_reversed => k_is)
    (case z_range => k_is)
    (case z_enumerate => k_is)
    (case z_isinstance => k_is)
    (case z_str => k_is)
    (case z_int => k_is)
    (case z_min => k_is)
    (case z_max => k_is)
