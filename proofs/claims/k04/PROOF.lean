import PyProof.Rows.All
import Wide.All
import OpenK.AllK
import Wide.FinOn
import HandS.ForMost
import HandS.More
import HandS.Conv
import HandS.Star
import HandS.Zip
import HandS.Walk
import HandS.TupLen
import HandS.TupAny
import HandS.Small
import HandS.IsInst
import HandS.CallLocal
import HandS.Wide
import HandS.EndBits
import KE.KDictCopyH
import KE.GoesMore
import KE.GoesEnum
import PySem.Challenge.RW_shopwhole_k04_whole_standings
import HandS.Style
set_option Elab.async false
set_option linter.all false
set_option maxRecDepth 100000
set_option maxHeartbeats 8000000
/-! A1_Math: stretches (ascending, not overlapping, touching ones unlike), their values by place, and how a sweep makes new ones. Plain Lean, no program. -/
namespace K4

def Bd (x : Int) : Prop := -20 ≤ x ∧ x ≤ 20
abbrev Sx (A : Type) := List (Int × Int × A)
def Af {A : Type} (p q : Int × Int × A) : Prop := p.2.1 < q.1 ∨ (p.2.1 = q.1 ∧ p.2.2 ≠ q.2.2)
structure Ok {A : Type} (e : A) (P : A → Prop) (s : Sx A) : Prop where
  each : ∀ p ∈ s, p.1 < p.2.1 ∧ p.2.2 ≠ e ∧ P p.2.2 ∧ Bd p.1 ∧ Bd p.2.1
  asc : s.Pairwise Af
def val {A : Type} (e : A) : Sx A → Int → A
  | [], _ => e
  | p :: r, x => if p.1 ≤ x ∧ x < p.2.1 then p.2.2 else val e r x

section
variable {A : Type} {e : A} {P : A → Prop} {s : Sx A}

theorem Ok.nil : Ok e P ([] : Sx A) := ⟨fun _ h => (nomatch h), List.Pairwise.nil⟩
theorem Ok.tail {p : Int × Int × A} (h : Ok e P (p :: s)) : Ok e P s := ⟨fun q hq => h.each q (List.mem_cons_of_mem _ hq), (List.pairwise_cons.mp h.asc).2⟩
theorem Ok.head {p : Int × Int × A} (h : Ok e P (p :: s)) : ∀ q ∈ s, Af p q := (List.pairwise_cons.mp h.asc).1
theorem Af.le {p q : Int × Int × A} (h : Af p q) : p.2.1 ≤ q.1 := by
  rcases h with h | h
  · omega
  · omega

theorem val_out : ∀ {s : Sx A} {x : Int}, (∀ p ∈ s, ¬ (p.1 ≤ x ∧ x < p.2.1)) → val e s x = e
  | [], _, _ => rfl
  | p :: r, x, h => by
    unfold val
    rw [if_neg (h p List.mem_cons_self)]
    exact val_out fun q hq => h q (List.mem_cons_of_mem _ hq)
theorem val_hit : ∀ {s : Sx A} {x : Int} {p : Int × Int × A}, Ok e P s → p ∈ s → p.1 ≤ x → x < p.2.1 → val e s x = p.2.2
  | [], _, _, _, h, _, _ => nomatch h
  | q :: r, x, p, ok, h, h1, h2 => by
    unfold val
    rcases List.mem_cons.mp h with e1 | h'
    · subst e1
      rw [if_pos ⟨h1, h2⟩]
    · have h3 := (ok.head p h').le
      rw [if_neg (by omega)]
      exact val_hit ok.tail h' h1 h2
theorem val_some : ∀ {s : Sx A} {x : Int}, val e s x ≠ e → ∃ p ∈ s, p.1 ≤ x ∧ x < p.2.1 ∧ p.2.2 = val e s x
  | [], _, h => absurd rfl h
  | p :: r, x, h => by
    by_cases hc : p.1 ≤ x ∧ x < p.2.1
    · exact ⟨p, List.mem_cons_self, hc.1, hc.2, by unfold val; rw [if_pos hc]⟩
    · have e1 : val e (p :: r) x = val e r x := by
        show (if p.1 ≤ x ∧ x < p.2.1 then p.2.2 else val e r x) = val e r x
        rw [if_neg hc]
      rw [e1] at h ⊢
      obtain ⟨q, hq, h1, h2, h3⟩ := val_some h
      exact ⟨q, List.mem_cons_of_mem _ hq, h1, h2, h3⟩
theorem val_mem_or (x : Int) : val e s x = e ∨ ∃ p ∈ s, p.1 ≤ x ∧ x < p.2.1 ∧ p.2.2 = val e s x := by
  by_cases h : ∃ p ∈ s, p.1 ≤ x ∧ x < p.2.1
  · by_cases h' : val e s x = e
    · exact .inl h'
    · exact .inr (val_some h')
  · exact .inl (val_out fun p hp hc => h ⟨p, hp, hc.1, hc.2⟩)
theorem val_P (ok : Ok e P s) (x : Int) : val e s x = e ∨ P (val e s x) := by
  rcases val_mem_or (e := e) (s := s) x with h | ⟨p, hp, h1, h2, h3⟩
  · exact .inl h
  · exact .inr (by rw [← h3]; exact (ok.each p hp).2.2.1)
theorem val_snoc : ∀ {s : Sx A} {q : Int × Int × A} {x : Int}, (∀ p ∈ s, p.2.1 ≤ q.1) → val e (s ++ [q]) x = if q.1 ≤ x ∧ x < q.2.1 then q.2.2 else val e s x
  | [], q, x, _ => rfl
  | p :: r, q, x, h => by
    have ih := val_snoc (s := r) (q := q) (x := x) fun p' hp' => h p' (List.mem_cons_of_mem _ hp')
    have hp := h p List.mem_cons_self
    show (if p.1 ≤ x ∧ x < p.2.1 then p.2.2 else val e (r ++ [q]) x) = if q.1 ≤ x ∧ x < q.2.1 then q.2.2 else (if p.1 ≤ x ∧ x < p.2.1 then p.2.2 else val e r x)
    rw [ih]
    by_cases hc : p.1 ≤ x ∧ x < p.2.1
    · rw [if_pos hc, if_neg (by omega), if_pos hc]
    · rw [if_neg hc, if_neg hc]

/-! ### places by a pointer -/
theorem ptr_val (ok : Ok e P s) {at_ : Nat} {low : Int} (h1 : ∀ j p, j < at_ → s[j]? = some p → p.2.1 ≤ low) (h2 : ∀ p, s[at_]? = some p → low < p.2.1) :
    (∀ p, s[at_]? = some p → p.1 ≤ low → val e s low = p.2.2) ∧ (∀ p, s[at_]? = some p → ¬ p.1 ≤ low → val e s low = e) ∧ (s[at_]? = none → val e s low = e) := by
  refine ⟨fun p hp hl => val_hit ok (List.mem_of_getElem? hp) hl (h2 p hp), fun p hp hl => val_out fun q hq hc => ?_, fun hn => val_out fun q hq hc => ?_⟩
  · obtain ⟨j, hj⟩ := List.getElem?_of_mem hq
    rcases Nat.lt_trichotomy j at_ with h | h | h
    · have := h1 j q h hj
      omega
    · subst h
      rw [hp] at hj
      cases hj
      exact hl hc.1
    · have hpw := List.pairwise_iff_getElem.mp ok.asc
      obtain ⟨a1, a2⟩ := List.getElem?_eq_some_iff.mp hp
      obtain ⟨b1, b2⟩ := List.getElem?_eq_some_iff.mp hj
      have h3 := (hpw at_ j a1 b1 h).le
      rw [a2, b2] at h3
      have := h2 p hp
      omega
  · obtain ⟨j, hj⟩ := List.getElem?_of_mem hq
    have h3 : s.length ≤ at_ := List.getElem?_eq_none_iff.mp hn
    obtain ⟨b1, _⟩ := List.getElem?_eq_some_iff.mp hj
    have := h1 j q (by omega) hj
    omega

/-! ### ends -/
def EndsIn (s : Sx A) (E : List Int) : Prop := ∀ p ∈ s, p.1 ∈ E ∧ p.2.1 ∈ E
theorem val_before {E : List Int} (h : EndsIn s E) {x : Int} (hx : ∀ y ∈ E, x < y) : val e s x = e :=
  val_out fun p hp hc => by
    have := hx _ (h p hp).1
    omega
theorem val_after {E : List Int} (h : EndsIn s E) {x : Int} (hx : ∀ y ∈ E, y ≤ x) : val e s x = e :=
  val_out fun p hp hc => by
    have := hx _ (h p hp).2
    omega
theorem consec {E : List Int} (hE : E.Pairwise (· < ·)) {i : Nat} {a b : Int} (ha : E[i]? = some a) (hb : E[i + 1]? = some b) : a < b ∧ ∀ y ∈ E, y ≤ a ∨ b ≤ y := by
  have hpw := List.pairwise_iff_getElem.mp hE
  obtain ⟨a1, a2⟩ := List.getElem?_eq_some_iff.mp ha
  obtain ⟨b1, b2⟩ := List.getElem?_eq_some_iff.mp hb
  refine ⟨?_, fun y hy => ?_⟩
  · have := hpw i (i + 1) a1 b1 (by omega)
    rw [a2, b2] at this
    exact this
  · obtain ⟨j, hj⟩ := List.getElem?_of_mem hy
    obtain ⟨c1, c2⟩ := List.getElem?_eq_some_iff.mp hj
    rcases Nat.lt_trichotomy j i with h | h | h
    · have := hpw j i c1 a1 h
      rw [c2, a2] at this
      omega
    · subst h
      rw [ha] at hj
      cases hj
      omega
    · by_cases h' : j = i + 1
      · subst h'
        rw [hb] at hj
        cases hj
        omega
      · have := hpw (i + 1) j b1 c1 (by omega)
        rw [c2, b2] at this
        omega
theorem val_between {E : List Int} (h : EndsIn s E) (hE : E.Pairwise (· < ·)) {i : Nat} {a b x : Int} (ha : E[i]? = some a) (hb : E[i + 1]? = some b) (h1 : a ≤ x) (h2 : x < b) : val e s x = val e s a := by
  have hc := (consec hE ha hb).2
  clear ha hb
  induction s with
  | nil => rfl
  | cons p r ih =>
    have ih' := ih fun q hq => h q (List.mem_cons_of_mem _ hq)
    obtain ⟨p1, p2⟩ := h p List.mem_cons_self
    have c1 := hc _ p1
    have c2 := hc _ p2
    show (if p.1 ≤ x ∧ x < p.2.1 then p.2.2 else val e r x) = (if p.1 ≤ a ∧ a < p.2.1 then p.2.2 else val e r a)
    rw [ih']
    by_cases hq : p.1 ≤ a ∧ a < p.2.1
    · rw [if_pos hq, if_pos (by omega)]
    · rw [if_neg hq, if_neg (by omega)]

/-! ### the sweep -/
structure Good (e : A) (P : A → Prop) (f : Int → A → Prop) (b : Int) (acc : Sx A) : Prop where
  ok : Ok e P acc
  hi : ∀ p ∈ acc, p.2.1 ≤ b
  sem : ∀ x, x < b → f x (val e acc x)
variable {f : Int → A → Prop} {b b' : Int} {acc : Sx A} {i : A}
theorem Good.start (h : ∀ x, x < b → f x e) : Good e P f b [] := ⟨Ok.nil, fun _ z => (nomatch z), h⟩
theorem Good.skip (g : Good e P f b acc) (hb : b < b') (h : ∀ x, b ≤ x → x < b' → f x e) : Good e P f b' acc := by
  refine ⟨g.ok, fun p hp => by have := g.hi p hp; omega, fun x hx => ?_⟩
  by_cases hlt : x < b
  · exact g.sem x hlt
  · rw [val_out (e := e) (s := acc) (x := x) fun p hp hc => by have := g.hi p hp; omega]
    exact h x (by omega) hx
theorem Good.merge {init : Sx A} {a : Int} (g : Good e P f b (init ++ [(a, b, i)])) (hb : b < b') (hB : Bd b') (h : ∀ x, b ≤ x → x < b' → f x i) : Good e P f b' (init ++ [(a, b', i)]) := by
  obtain ⟨h1, h2, h3⟩ := List.pairwise_append.mp g.ok.asc
  have hl : ∀ p ∈ init, p.2.1 ≤ a := fun p hp => (h3 p hp (a, b, i) (List.mem_singleton.mpr rfl)).le
  have e0 := g.ok.each (a, b, i) (List.mem_append_right _ (List.mem_singleton.mpr rfl))
  have e0' : a < b ∧ i ≠ e ∧ P i ∧ Bd a ∧ Bd b := e0
  refine ⟨⟨fun p hp => ?_, List.pairwise_append.mpr ⟨h1, List.pairwise_singleton _ _, fun p hp q hq => ?_⟩⟩, fun p hp => ?_, fun x hx => ?_⟩
  · rcases List.mem_append.mp hp with hp | hp
    · exact g.ok.each p (List.mem_append_left _ hp)
    · rw [List.mem_singleton.mp hp]
      exact ⟨show a < b' by omega, e0'.2.1, e0'.2.2.1, e0'.2.2.2.1, hB⟩
  · rw [List.mem_singleton.mp hq]
    exact h3 p hp (a, b, i) (List.mem_singleton.mpr rfl)
  · rcases List.mem_append.mp hp with hp | hp
    · have := g.hi p (List.mem_append_left _ hp)
      omega
    · rw [List.mem_singleton.mp hp]
      exact Int.le_refl _
  · rw [val_snoc (q := (a, b', i)) hl]
    show f x (if a ≤ x ∧ x < b' then i else val e init x)
    by_cases hlt : x < b
    · have q := g.sem x hlt
      rw [val_snoc (q := (a, b, i)) hl] at q
      have q : f x (if a ≤ x ∧ x < b then i else val e init x) := q
      by_cases hc : a ≤ x
      · rw [if_pos ⟨hc, hx⟩]
        rw [if_pos ⟨hc, hlt⟩] at q
        exact q
      · rw [if_neg (by omega)]
        rw [if_neg (by omega)] at q
        exact q
    · rw [if_pos (by omega)]
      exact h x (by omega) hx
theorem Good.app (g : Good e P f b acc) (hb : b < b') (hB : Bd b) (hB' : Bd b') (hi : i ≠ e) (hP : P i) (hno : ∀ init p, acc = init ++ [p] → ¬ (p.2.1 = b ∧ p.2.2 = i)) (h : ∀ x, b ≤ x → x < b' → f x i) : Good e P f b' (acc ++ [(b, b', i)]) := by
  have hl : ∀ p ∈ acc, p.2.1 ≤ b := g.hi
  refine ⟨⟨fun p hp => ?_, List.pairwise_append.mpr ⟨g.ok.asc, List.pairwise_singleton _ _, fun p hp q hq => ?_⟩⟩, fun p hp => ?_, fun x hx => ?_⟩
  · rcases List.mem_append.mp hp with hp | hp
    · exact g.ok.each p hp
    · rw [List.mem_singleton.mp hp]
      exact ⟨hb, hi, hP, hB, hB'⟩
  · rw [List.mem_singleton.mp hq]
    show p.2.1 < b ∨ (p.2.1 = b ∧ p.2.2 ≠ i)
    have h1 := hl p hp
    by_cases hlt : p.2.1 < b
    · exact .inl hlt
    · have he : p.2.1 = b := by omega
      refine .inr ⟨he, fun hz => ?_⟩
      rcases List.eq_nil_or_concat acc with hn | ⟨init, l, hn⟩
      · rw [hn] at hp
        exact nomatch hp
      · rw [List.concat_eq_append] at hn
        have hpm := hp
        rw [hn] at hpm
        rcases List.mem_append.mp hpm with hpi | hpl
        · have ha := g.ok.asc
          rw [hn] at ha
          have h3 := ((List.pairwise_append.mp ha).2.2 p hpi l (List.mem_singleton.mpr rfl)).le
          have hlm : l ∈ acc := by rw [hn]; exact List.mem_append_right _ (List.mem_singleton.mpr rfl)
          have h4 := (g.ok.each l hlm).1
          have h5 := hl l hlm
          omega
        · have hpl' : p = l := List.mem_singleton.mp hpl
          subst hpl'
          exact hno init p hn ⟨he, hz⟩
  · rcases List.mem_append.mp hp with hp | hp
    · have := hl p hp
      omega
    · rw [List.mem_singleton.mp hp]
      exact Int.le_refl _
  · rw [val_snoc (q := (b, b', i)) hl]
    show f x (if b ≤ x ∧ x < b' then i else val e acc x)
    by_cases hlt : x < b
    · rw [if_neg (by omega)]
      exact g.sem x hlt
    · rw [if_pos (by omega)]
      exact h x (by omega) hx
theorem Good.fin (g : Good e P f b acc) (h : ∀ x, b ≤ x → f x e) : ∀ x, f x (val e acc x) := fun x => by
  by_cases hlt : x < b
  · exact g.sem x hlt
  · rw [val_out (e := e) (s := acc) (x := x) fun p hp hc => by have := g.hi p hp; omega]
    exact h x (by omega)

/-! ### how many -/
theorem len_in : ∀ {s : Sx A} {a c : Int}, Ok e P s → (∀ p ∈ s, a ≤ p.1) → (∀ p ∈ s, p.2.1 ≤ c) → s ≠ [] → (s.length : Int) ≤ c - a
  | [], _, _, _, _, _, h => absurd rfl h
  | [p], a, c, ok, h1, h2, _ => by
    have q1 := h1 p List.mem_cons_self
    have q2 := h2 p List.mem_cons_self
    have q3 := (ok.each p List.mem_cons_self).1
    show ((0 + 1 : Nat) : Int) ≤ c - a
    omega
  | p :: q :: r, a, c, ok, h1, h2, _ => by
    have q1 := h1 p List.mem_cons_self
    have q3 := (ok.each p List.mem_cons_self).1
    have ih := len_in (s := q :: r) (a := a + 1) (c := c) ok.tail (fun p' hp' => by have := (ok.head p' hp').le; omega) (fun p' hp' => h2 p' (List.mem_cons_of_mem _ hp')) (by simp)
    have e1 : (p :: q :: r).length = (q :: r).length + 1 := rfl
    omega
theorem Ok.len (ok : Ok e P s) : s.length ≤ 40 := by
  by_cases h : s = []
  · subst h
    exact Nat.zero_le _
  · have := len_in (a := -20) (c := 20) ok (fun p hp => (ok.each p hp).2.2.2.1.1) (fun p hp => (ok.each p hp).2.2.2.2.2) h
    omega
end

/-! ### rows, layers, solids -/
abbrev Row := List (Int × Int)
abbrev Layer := Sx Row
abbrev Sol := Sx Layer
def rs (r : Row) : Sx Bool := r.map fun p => (p.1, p.2, true)
def RowOk (r : Row) : Prop := Ok false (fun _ => True) (rs r)
def rmem (r : Row) (x : Int) : Bool := val false (rs r) x
def LayOk (l : Layer) : Prop := Ok ([] : Row) RowOk l
def lmem (l : Layer) (y x : Int) : Bool := rmem (val [] l y) x
def SolOk (s : Sol) : Prop := Ok ([] : Layer) LayOk s
def smem (s : Sol) (z y x : Int) : Bool := lmem (val [] s z) y x
/-- what is kept: of either (w), of both -/
def kept (w a b : Bool) : Bool := if w then a || b else a && b
theorem kept_ff (w : Bool) : kept w false false = false := by cases w <;> rfl

theorem RowOk.nil : RowOk [] := Ok.nil
theorem LayOk.nil : LayOk [] := Ok.nil
theorem SolOk.nil : SolOk [] := Ok.nil
theorem rmem_nil (x : Int) : rmem [] x = false := rfl
theorem lmem_nil (y x : Int) : lmem [] y x = false := rfl
theorem smem_nil (z y x : Int) : smem [] z y x = false := rfl
theorem RowOk.len {r : Row} (h : RowOk r) : r.length ≤ 40 := by
  have := Ok.len h
  rw [rs, List.length_map] at this
  exact this
theorem rmem_iff {r : Row} (h : RowOk r) (x : Int) : rmem r x = true ↔ ∃ p ∈ r, p.1 ≤ x ∧ x < p.2 := by
  constructor
  · intro hx
    have hne : val false (rs r) x ≠ false := by
      intro hz
      have : rmem r x = false := hz
      rw [this] at hx
      exact Bool.noConfusion hx
    obtain ⟨p, hp, h1, h2, _⟩ := val_some hne
    obtain ⟨q, hq, e1⟩ := List.mem_map.mp hp
    subst e1
    exact ⟨q, hq, h1, h2⟩
  · rintro ⟨p, hp, h1, h2⟩
    have hm : (p.1, p.2, true) ∈ rs r := List.mem_map.mpr ⟨p, hp, rfl⟩
    exact val_hit (p := (p.1, p.2, true)) h hm h1 h2
theorem lmem_iff {l : Layer} (h : LayOk l) (y x : Int) : lmem l y x = true ↔ ∃ p ∈ l, p.1 ≤ y ∧ y < p.2.1 ∧ rmem p.2.2 x = true := by
  constructor
  · intro hx
    have hne : val ([] : Row) l y ≠ [] := by
      intro hz
      have hx : rmem (val [] l y) x = true := hx
      rw [hz] at hx
      exact Bool.noConfusion hx
    obtain ⟨p, hp, h1, h2, h3⟩ := val_some hne
    exact ⟨p, hp, h1, h2, by rw [h3]; exact hx⟩
  · rintro ⟨p, hp, h1, h2, h3⟩
    show rmem (val [] l y) x = true
    rw [val_hit h hp h1 h2]
    exact h3
theorem smem_iff {s : Sol} (h : SolOk s) (z y x : Int) : smem s z y x = true ↔ ∃ p ∈ s, p.1 ≤ z ∧ z < p.2.1 ∧ lmem p.2.2 y x = true := by
  constructor
  · intro hx
    have hne : val ([] : Layer) s z ≠ [] := by
      intro hz
      have hx : lmem (val [] s z) y x = true := hx
      rw [hz] at hx
      exact Bool.noConfusion hx
    obtain ⟨p, hp, h1, h2, h3⟩ := val_some hne
    exact ⟨p, hp, h1, h2, by rw [h3]; exact hx⟩
  · rintro ⟨p, hp, h1, h2, h3⟩
    show lmem (val [] s z) y x = true
    rw [val_hit h hp h1 h2]
    exact h3
/-- what is not empty has something -/
theorem row_some {r : Row} (h : RowOk r) (hn : r ≠ []) : ∃ x, rmem r x = true := by
  obtain ⟨p, t, rfl⟩ := List.exists_cons_of_ne_nil hn
  have hm : (p.1, p.2, true) ∈ rs (p :: t) := List.mem_map.mpr ⟨p, List.mem_cons_self, rfl⟩
  have h1 : p.1 < p.2 := (h.each _ hm).1
  exact ⟨p.1, (rmem_iff h _).mpr ⟨p, List.mem_cons_self, Int.le_refl _, h1⟩⟩
theorem lay_some {l : Layer} (h : LayOk l) (hn : l ≠ []) : ∃ y x, lmem l y x = true := by
  obtain ⟨p, t, rfl⟩ := List.exists_cons_of_ne_nil hn
  obtain ⟨h1, h2, h3, _⟩ := h.each p List.mem_cons_self
  obtain ⟨x, hx⟩ := row_some h3 h2
  exact ⟨p.1, x, (lmem_iff h _ _).mpr ⟨p, List.mem_cons_self, Int.le_refl _, h1, hx⟩⟩
theorem sol_some {s : Sol} (h : SolOk s) (hn : s ≠ []) : ∃ z y x, smem s z y x = true := by
  obtain ⟨p, t, rfl⟩ := List.exists_cons_of_ne_nil hn
  obtain ⟨h1, h2, h3, _⟩ := h.each p List.mem_cons_self
  obtain ⟨y, x, hx⟩ := lay_some h3 h2
  exact ⟨p.1, y, x, (smem_iff h _ _ _).mpr ⟨p, List.mem_cons_self, Int.le_refl _, h1, hx⟩⟩
end K4
/-! A2_Cells: boxes of a solid, their unit cubes, duplicate-free; the law's equations over sets of cubes. Plain Lean. -/
namespace K4

abbrev P3 := Int × Int × Int
abbrev Box := P3 × P3
def inB (b : Box) (q : P3) : Prop := (b.1.1 ≤ q.1 ∧ q.1 < b.2.1) ∧ (b.1.2.1 ≤ q.2.1 ∧ q.2.1 < b.2.2.1) ∧ (b.1.2.2 ≤ q.2.2 ∧ q.2.2 < b.2.2.2)
def pm (s : Sol) (q : P3) : Prop := smem s q.2.2 q.2.1 q.1 = true
def boxesR (z0 z1 y0 y1 : Int) (r : Row) : List Box := r.map fun p => ((p.1, y0, z0), (p.2, y1, z1))
def boxesL (z0 z1 : Int) (l : Layer) : List Box := l.flatMap fun p => boxesR z0 z1 p.1 p.2.1 p.2.2
def boxes (s : Sol) : List Box := s.flatMap fun p => boxesL p.1 p.2.1 p.2.2
def wide (b : Box) : Prop := b.1.1 < b.2.1 ∧ b.1.2.1 < b.2.2.1 ∧ b.1.2.2 < b.2.2.2
def bdB (b : Box) : Prop := (Bd b.1.1 ∧ Bd b.1.2.1 ∧ Bd b.1.2.2) ∧ (Bd b.2.1 ∧ Bd b.2.2.1 ∧ Bd b.2.2.2)

theorem mem_boxes {s : Sol} {b : Box} : b ∈ boxes s ↔ ∃ p ∈ s, ∃ l ∈ p.2.2, ∃ r ∈ l.2.2, b = ((r.1, l.1, p.1), (r.2, l.2.1, p.2.1)) := by
  unfold boxes
  rw [List.mem_flatMap]
  constructor
  · rintro ⟨p, hp, h⟩
    unfold boxesL at h
    obtain ⟨l, hl, h⟩ := List.mem_flatMap.mp h
    unfold boxesR at h
    obtain ⟨r, hr, h⟩ := List.mem_map.mp h
    exact ⟨p, hp, l, hl, r, hr, h.symm⟩
  · rintro ⟨p, hp, l, hl, r, hr, h⟩
    refine ⟨p, hp, ?_⟩
    unfold boxesL
    refine List.mem_flatMap.mpr ⟨l, hl, ?_⟩
    unfold boxesR
    exact List.mem_map.mpr ⟨r, hr, h.symm⟩
theorem RowOk.at {r : Row} (h : RowOk r) {p : Int × Int} (hp : p ∈ r) : p.1 < p.2 ∧ Bd p.1 ∧ Bd p.2 := by
  obtain ⟨h1, _, _, h2, h3⟩ := h.each (p.1, p.2, true) (List.mem_map.mpr ⟨p, hp, rfl⟩)
  exact ⟨h1, h2, h3⟩
theorem box_ok {s : Sol} (h : SolOk s) {b : Box} (hb : b ∈ boxes s) : wide b ∧ bdB b := by
  obtain ⟨p, hp, l, hl, r, hr, rfl⟩ := mem_boxes.mp hb
  obtain ⟨p1, _, p3, p4, p5⟩ := h.each p hp
  obtain ⟨l1, _, l3, l4, l5⟩ := Ok.each p3 l hl
  obtain ⟨r1, r2, r3⟩ := RowOk.at l3 hr
  exact ⟨⟨r1, l1, p1⟩, ⟨r2, l4, p4⟩, ⟨r3, l5, p5⟩⟩
theorem pm_boxes {s : Sol} (h : SolOk s) (q : P3) : pm s q ↔ ∃ b ∈ boxes s, inB b q := by
  unfold pm
  rw [smem_iff h]
  constructor
  · rintro ⟨p, hp, h1, h2, h3⟩
    have lo := (h.each p hp).2.2.1
    obtain ⟨l, hl, h4, h5, h6⟩ := (lmem_iff lo _ _).mp h3
    have ro := (Ok.each lo l hl).2.2.1
    obtain ⟨r, hr, h7, h8⟩ := (rmem_iff ro _).mp h6
    exact ⟨_, mem_boxes.mpr ⟨p, hp, l, hl, r, hr, rfl⟩, ⟨h7, h8⟩, ⟨h4, h5⟩, ⟨h1, h2⟩⟩
  · rintro ⟨b, hb, h1, h2, h3⟩
    obtain ⟨p, hp, l, hl, r, hr, rfl⟩ := mem_boxes.mp hb
    have lo := (h.each p hp).2.2.1
    have ro := (Ok.each lo l hl).2.2.1
    exact ⟨p, hp, h3.1, h3.2, (lmem_iff lo _ _).mpr ⟨l, hl, h2.1, h2.2, (rmem_iff ro _).mpr ⟨r, hr, h1.1, h1.2⟩⟩⟩

/-! ### cubes -/
def rng (a b : Int) : List Int := (List.range (b - a).toNat).map fun i : Nat => a + (i : Int)
theorem mem_rng {a b x : Int} : x ∈ rng a b ↔ a ≤ x ∧ x < b := by
  unfold rng
  rw [List.mem_map]
  constructor
  · rintro ⟨i, hi, rfl⟩
    have := List.mem_range.mp hi
    omega
  · rintro ⟨h1, h2⟩
    exact ⟨(x - a).toNat, List.mem_range.mpr (by omega), by omega⟩
theorem nodup_rng (a b : Int) : (rng a b).Nodup := by
  unfold rng List.Nodup
  rw [List.pairwise_map]
  refine List.Pairwise.imp (fun {i j} h => ?_) (List.nodup_range (n := (b - a).toNat))
  intro z
  omega
theorem len_rng (a b : Int) : (rng a b).length = (b - a).toNat := by
  unfold rng
  rw [List.length_map, List.length_range]
def cellsY (b : Box) (x y : Int) : List P3 := (rng b.1.2.2 b.2.2.2).map fun z => (x, y, z)
def cellsX (b : Box) (x : Int) : List P3 := (rng b.1.2.1 b.2.2.1).flatMap fun y => cellsY b x y
def cellsOf (b : Box) : List P3 := (rng b.1.1 b.2.1).flatMap fun x => cellsX b x
def cells (bs : List Box) : List P3 := bs.flatMap cellsOf
theorem mem_cellsOf {b : Box} {q : P3} : q ∈ cellsOf b ↔ inB b q := by
  unfold cellsOf
  rw [List.mem_flatMap]
  constructor
  · rintro ⟨x, hx, h⟩
    unfold cellsX at h
    obtain ⟨y, hy, h⟩ := List.mem_flatMap.mp h
    unfold cellsY at h
    obtain ⟨z, hz, rfl⟩ := List.mem_map.mp h
    exact ⟨mem_rng.mp hx, mem_rng.mp hy, mem_rng.mp hz⟩
  · rintro ⟨h1, h2, h3⟩
    refine ⟨q.1, mem_rng.mpr h1, ?_⟩
    unfold cellsX
    refine List.mem_flatMap.mpr ⟨q.2.1, mem_rng.mpr h2, ?_⟩
    unfold cellsY
    exact List.mem_map.mpr ⟨q.2.2, mem_rng.mpr h3, rfl⟩
theorem mem_cells {bs : List Box} {q : P3} : q ∈ cells bs ↔ ∃ b ∈ bs, inB b q := by
  unfold cells
  rw [List.mem_flatMap]
  exact ⟨fun ⟨b, hb, h⟩ => ⟨b, hb, mem_cellsOf.mp h⟩, fun ⟨b, hb, h⟩ => ⟨b, hb, mem_cellsOf.mpr h⟩⟩
theorem mem_cellsX {b : Box} {x : Int} {q : P3} : q ∈ cellsX b x → q.1 = x := by
  unfold cellsX
  intro h
  obtain ⟨y, hy, h⟩ := List.mem_flatMap.mp h
  unfold cellsY at h
  obtain ⟨z, hz, rfl⟩ := List.mem_map.mp h
  rfl
theorem mem_cellsY {b : Box} {x y : Int} {q : P3} : q ∈ cellsY b x y → q.2.1 = y := by
  unfold cellsY
  intro h
  obtain ⟨z, hz, rfl⟩ := List.mem_map.mp h
  rfl
theorem nodup_flat {A B : Type} {l : List A} {g : A → List B} (hl : l.Nodup) (hg : ∀ a ∈ l, (g a).Nodup) (hd : ∀ a ∈ l, ∀ b ∈ l, ∀ c, c ∈ g a → c ∈ g b → a = b) : (l.flatMap g).Nodup := by
  unfold List.Nodup
  rw [List.pairwise_flatMap]
  refine ⟨hg, ?_⟩
  refine List.Pairwise.imp_of_mem (fun {a b} ha hb hab x hx y hy e => ?_) hl
  subst e
  exact hab (hd a ha b hb x hx hy)
theorem nodup_cellsOf (b : Box) : (cellsOf b).Nodup := by
  unfold cellsOf
  refine nodup_flat (nodup_rng _ _) (fun x _ => ?_) fun x _ x' _ c h h' => (mem_cellsX h).symm.trans (mem_cellsX h')
  unfold cellsX
  refine nodup_flat (nodup_rng _ _) (fun y _ => ?_) fun y _ y' _ c h h' => (mem_cellsY h).symm.trans (mem_cellsY h')
  unfold cellsY List.Nodup
  rw [List.pairwise_map]
  refine List.Pairwise.imp (fun {i j} h e => h ?_) (nodup_rng _ _)
  injection e with _ e
  injection e with _ e
/-- boxes of a solid lie apart -/
theorem boxes_apart {s : Sol} (h : SolOk s) : (boxes s).Pairwise fun b c => ∀ q, inB b q → ¬ inB c q := by
  unfold boxes
  rw [List.pairwise_flatMap]
  refine ⟨fun p hp => ?_, List.Pairwise.imp_of_mem (fun {p p'} hp hp' hpp b hb c hc q h1 h2 => ?_) h.asc⟩
  · have lo := (h.each p hp).2.2.1
    unfold boxesL
    rw [List.pairwise_flatMap]
    refine ⟨fun l hl => ?_, List.Pairwise.imp_of_mem (fun {l l'} hl hl' hll b hb c hc q h1 h2 => ?_) lo.asc⟩
    · have ro := (Ok.each lo l hl).2.2.1
      unfold boxesR
      rw [List.pairwise_map]
      have ra := Ok.asc ro
      unfold rs at ra
      rw [List.pairwise_map] at ra
      refine List.Pairwise.imp (fun {r r'} hr q h1 h2 => ?_) ra
      have h3 : r.2 ≤ r'.1 := hr.le
      have h4 : q.1 < r.2 := h1.1.2
      have h5 : r'.1 ≤ q.1 := h2.1.1
      omega
    · unfold boxesR at hb hc
      obtain ⟨r, hr, rfl⟩ := List.mem_map.mp hb
      obtain ⟨r', hr', rfl⟩ := List.mem_map.mp hc
      have h3 : l.2.1 ≤ l'.1 := hll.le
      have h4 : q.2.1 < l.2.1 := h1.2.1.2
      have h5 : l'.1 ≤ q.2.1 := h2.2.1.1
      omega
  · have h3 : p.2.1 ≤ p'.1 := hpp.le
    unfold boxesL at hb hc
    obtain ⟨l, hl, hb⟩ := List.mem_flatMap.mp hb
    obtain ⟨l', hl', hc⟩ := List.mem_flatMap.mp hc
    unfold boxesR at hb hc
    obtain ⟨r, hr, rfl⟩ := List.mem_map.mp hb
    obtain ⟨r', hr', rfl⟩ := List.mem_map.mp hc
    have h4 : q.2.2 < p.2.1 := h1.2.2.2
    have h5 : p'.1 ≤ q.2.2 := h2.2.2.1
    omega
theorem nodup_cells {s : Sol} (h : SolOk s) : (cells (boxes s)).Nodup := by
  unfold cells List.Nodup
  rw [List.pairwise_flatMap]
  refine ⟨fun b _ => nodup_cellsOf b, List.Pairwise.imp (fun {b c} hbc x hx y hy e => ?_) (boxes_apart h)⟩
  subst e
  exact hbc x (mem_cellsOf.mp hx) (mem_cellsOf.mp hy)
theorem len_flat {A B : Type} {g : A → List B} {n : Nat} : ∀ {l : List A}, (∀ a ∈ l, (g a).length = n) → (l.flatMap g).length = l.length * n
  | [], _ => by simp
  | a :: r, h => by
    have ih := len_flat (l := r) fun b hb => h b (List.mem_cons_of_mem _ hb)
    rw [List.flatMap_cons, List.length_append, ih, h a List.mem_cons_self, List.length_cons, Nat.succ_mul, Nat.add_comm]
def vol (b : Box) : Int := (b.2.1 - b.1.1) * (b.2.2.1 - b.1.2.1) * (b.2.2.2 - b.1.2.2)
theorem len_cellsOf {b : Box} (h : wide b) : ((cellsOf b).length : Int) = vol b := by
  have e1 : (cellsOf b).length = (b.2.1 - b.1.1).toNat * ((b.2.2.1 - b.1.2.1).toNat * (b.2.2.2 - b.1.2.2).toNat) := by
    unfold cellsOf
    rw [len_flat (n := (b.2.2.1 - b.1.2.1).toNat * (b.2.2.2 - b.1.2.2).toNat) fun x _ => ?_, len_rng]
    unfold cellsX
    rw [len_flat (n := (b.2.2.2 - b.1.2.2).toNat) fun y _ => ?_, len_rng]
    unfold cellsY
    rw [List.length_map, len_rng]
  obtain ⟨h1, h2, h3⟩ := h
  rw [e1, Int.natCast_mul, Int.natCast_mul, Int.toNat_of_nonneg (by omega), Int.toNat_of_nonneg (by omega), Int.toNat_of_nonneg (by omega)]
  unfold vol
  rw [Int.mul_assoc]
theorem len_cells : ∀ {bs : List Box}, (∀ b ∈ bs, wide b) → ((cells bs).length : Int) = (bs.map vol).sum
  | [], _ => rfl
  | b :: r, h => by
    have ih := len_cells (bs := r) fun c hc => h c (List.mem_cons_of_mem _ hc)
    have e1 : cells (b :: r) = cellsOf b ++ cells r := List.flatMap_cons
    rw [e1, List.length_append, List.map_cons, List.sum_cons, Int.natCast_add, ih, len_cellsOf (h b List.mem_cons_self)]
theorem len_boxes_cells : ∀ {bs : List Box}, (∀ b ∈ bs, wide b) → bs.length ≤ (cells bs).length
  | [], _ => Nat.le_refl _
  | b :: r, h => by
    have ih := len_boxes_cells (bs := r) fun c hc => h c (List.mem_cons_of_mem _ hc)
    have e1 : cells (b :: r) = cellsOf b ++ cells r := List.flatMap_cons
    have hw := h b List.mem_cons_self
    have h1 : 0 < (cellsOf b).length := List.length_pos_of_mem (mem_cellsOf.mpr (show inB b b.1 from ⟨⟨Int.le_refl _, hw.1⟩, ⟨Int.le_refl _, hw.2.1⟩, ⟨Int.le_refl _, hw.2.2⟩⟩))
    rw [e1, List.length_append, List.length_cons]
    omega
theorem nodup_len {A : Type} [DecidableEq A] : ∀ {l m : List A}, l.Nodup → (∀ x ∈ l, x ∈ m) → l.length ≤ m.length
  | [], _, _, _ => Nat.zero_le _
  | a :: r, m, hn, h => by
    obtain ⟨h1, h2⟩ := List.nodup_cons.mp hn
    have ha : a ∈ m := h a List.mem_cons_self
    have ih := nodup_len (l := r) (m := m.erase a) h2 fun x hx => (List.mem_erase_of_ne (fun e => h1 (by rw [← e]; exact hx))).mpr (h x (List.mem_cons_of_mem _ hx))
    have hl : 0 < m.length := List.length_pos_of_mem ha
    rw [List.length_erase_of_mem ha] at ih
    rw [List.length_cons]
    omega

/-! ### the dict of cubes: its keys in order -/
def ins (ks : List P3) (q : P3) : List P3 := if q ∈ ks then ks else ks ++ [q]
def insAll (ks l : List P3) : List P3 := l.foldl ins ks
theorem mem_ins {ks : List P3} {q p : P3} : p ∈ ins ks q ↔ p ∈ ks ∨ p = q := by
  unfold ins
  by_cases h : q ∈ ks
  · rw [if_pos h]
    exact ⟨.inl, fun z => z.elim id fun e => e ▸ h⟩
  · rw [if_neg h, List.mem_append, List.mem_singleton]
theorem nodup_ins {ks : List P3} {q : P3} (h : ks.Nodup) : (ins ks q).Nodup := by
  unfold ins
  by_cases hq : q ∈ ks
  · rw [if_pos hq]
    exact h
  · rw [if_neg hq]
    refine List.nodup_append.mpr ⟨h, by simp, fun a ha b hb e => ?_⟩
    rw [List.mem_singleton.mp hb] at e
    exact hq (e ▸ ha)
theorem mem_insAll {p : P3} : ∀ {l ks : List P3}, p ∈ insAll ks l ↔ p ∈ ks ∨ p ∈ l
  | [], ks => ⟨.inl, fun z => z.elim id fun z => (nomatch z)⟩
  | q :: r, ks => by
    show p ∈ insAll (ins ks q) r ↔ _
    rw [mem_insAll, mem_ins, List.mem_cons, or_assoc]
theorem nodup_insAll : ∀ {l ks : List P3}, ks.Nodup → (insAll ks l).Nodup
  | [], ks, h => h
  | q :: r, ks, h => nodup_insAll (l := r) (nodup_ins h)
theorem insAll_new : ∀ {l ks : List P3}, (ks ++ l).Nodup → insAll ks l = ks ++ l
  | [], ks, _ => by
    show ks = ks ++ []
    rw [List.append_nil]
  | q :: r, ks, h => by
    have hq : q ∉ ks := fun hm => (List.nodup_append.mp h).2.2 q hm q List.mem_cons_self rfl
    have e1 : ins ks q = ks ++ [q] := by
      unfold ins
      rw [if_neg hq]
    show insAll (ins ks q) r = _
    rw [e1, insAll_new (by rw [List.append_assoc]; exact h), List.append_assoc]
    rfl
theorem insAll_append {l m ks : List P3} : insAll ks (l ++ m) = insAll (insAll ks l) m := by
  unfold insAll
  rw [List.foldl_append]
theorem insAll_len : ∀ {l ks : List P3}, (insAll ks l).length ≤ ks.length + l.length
  | [], ks => Nat.le_refl _
  | q :: r, ks => by
    have h1 := insAll_len (l := r) (ks := ins ks q)
    have h2 : (ins ks q).length ≤ ks.length + 1 := by
      unfold ins
      by_cases h : q ∈ ks
      · rw [if_pos h]
        omega
      · rw [if_neg h, List.length_append]
        exact Nat.le_refl _
    show (insAll (ins ks q) r).length ≤ _
    rw [List.length_cons]
    omega
/-- two duplicate-free lists with the same members are of one length -/
theorem same_len {l m : List P3} (hl : l.Nodup) (hm : m.Nodup) (h : ∀ q, q ∈ l ↔ q ∈ m) : l.length = m.length :=
  Nat.le_antisymm (nodup_len hl fun x hx => (h x).mp hx) (nodup_len hm fun x hx => (h x).mpr hx)
def cellDict (bs : List Box) : List P3 := insAll [] (cells bs)
theorem mem_cellDict {bs : List Box} {q : P3} : q ∈ cellDict bs ↔ ∃ b ∈ bs, inB b q := by
  unfold cellDict
  rw [mem_insAll, mem_cells]
  exact ⟨fun z => z.elim (fun z => (nomatch z)) id, .inr⟩
theorem nodup_cellDict (bs : List Box) : (cellDict bs).Nodup := nodup_insAll List.nodup_nil
theorem cellDict_sol {s : Sol} (h : SolOk s) : cellDict (boxes s) = cells (boxes s) := by
  unfold cellDict
  rw [insAll_new (by rw [List.nil_append]; exact nodup_cells h), List.nil_append]
theorem cellDict_len {s : Sol} (h : SolOk s) : ((cellDict (boxes s)).length : Int) = ((boxes s).map vol).sum := by
  rw [cellDict_sol h]
  exact len_cells fun b hb => (box_ok h hb).1

/-! ### a solid of boxes, one box -/
def SolOf (bs : List Box) (s : Sol) : Prop := SolOk s ∧ ∀ q, pm s q ↔ ∃ b ∈ bs, inB b q
def oneBox (b : Box) : Sol := [(b.1.2.2, b.2.2.2, [(b.1.2.1, b.2.2.1, [(b.1.1, b.2.1)])])]
theorem one_row {a c : Int} (h : a < c) (h1 : Bd a) (h2 : Bd c) : RowOk [(a, c)] :=
  ⟨fun p hp => by
    rw [show rs [(a, c)] = [(a, c, true)] from rfl] at hp
    rw [List.mem_singleton.mp hp]
    exact ⟨h, Bool.noConfusion, trivial, h1, h2⟩, List.pairwise_singleton _ _⟩
theorem oneBox_ok {b : Box} (h : wide b) (hb : bdB b) : SolOk (oneBox b) := by
  have r := one_row h.1 hb.1.1 hb.2.1
  have l : LayOk [(b.1.2.1, b.2.2.1, [(b.1.1, b.2.1)])] := ⟨fun p hp => by
    rw [List.mem_singleton.mp hp]
    exact ⟨h.2.1, List.cons_ne_nil _ _, r, hb.1.2.1, hb.2.2.1⟩, List.pairwise_singleton _ _⟩
  exact ⟨fun p hp => by
    rw [List.mem_singleton.mp hp]
    exact ⟨h.2.2, List.cons_ne_nil _ _, l, hb.1.2.2, hb.2.2.2⟩, List.pairwise_singleton _ _⟩
theorem oneBox_of {b : Box} (h : wide b) (hb : bdB b) : SolOf [b] (oneBox b) := by
  have ok := oneBox_ok h hb
  refine ⟨ok, fun q => ?_⟩
  rw [pm_boxes ok]
  have e : boxes (oneBox b) = [b] := rfl
  rw [e]
theorem noBox_of {b : Box} (h : ¬ wide b) : SolOf [b] [] := by
  refine ⟨SolOk.nil, fun q => ⟨fun z => Bool.noConfusion (show false = true from z), ?_⟩⟩
  rintro ⟨c, hc, h1, h2, h3⟩
  rw [List.mem_singleton.mp hc] at h1 h2 h3
  exact (h ⟨by omega, by omega, by omega⟩).elim
end K4
/-! A3_Law: the law's equations: swept, barred, neighbours, moved and meeting, over sets of unit cubes. Plain Lean. -/
namespace K4

def addP (p r : P3) : P3 := (p.1 + r.1, p.2.1 + r.2.1, p.2.2 + r.2.2)
def subP (p r : P3) : P3 := (p.1 - r.1, p.2.1 - r.2.1, p.2.2 - r.2.2)
def sweepB (b t : Box) : Box := ((b.1.1 + t.1.1, b.1.2.1 + t.1.2.1, b.1.2.2 + t.1.2.2), (b.2.1 - 1 + t.2.1, b.2.2.1 - 1 + t.2.2.1, b.2.2.2 - 1 + t.2.2.2))
def barB (b t : Box) : Box := ((b.1.1 - t.2.1 + 1, b.1.2.1 - t.2.2.1 + 1, b.1.2.2 - t.2.2.2 + 1), (b.2.1 - t.1.1, b.2.2.1 - t.1.2.1, b.2.2.2 - t.1.2.2))
theorem axis_add {a c d f q : Int} (h1 : a < c) (h2 : d < f) : (a + d ≤ q ∧ q < c - 1 + f) ↔ ∃ p r, (a ≤ p ∧ p < c) ∧ (d ≤ r ∧ r < f) ∧ q = p + r := by
  constructor
  · intro h
    by_cases hc : q - (f - 1) ≤ a
    · exact ⟨a, q - a, by omega, by omega, by omega⟩
    · exact ⟨q - (f - 1), f - 1, by omega, by omega, by omega⟩
  · rintro ⟨p, r, h3, h4, rfl⟩
    omega
theorem axis_sub {a c d f q : Int} (h1 : a < c) (h2 : d < f) : (a - f + 1 ≤ q ∧ q < c - d) ↔ ∃ p r, (a ≤ p ∧ p < c) ∧ (d ≤ r ∧ r < f) ∧ q = p - r := by
  constructor
  · intro h
    by_cases hc : q + d ≤ a
    · exact ⟨a, a - q, by omega, by omega, by omega⟩
    · exact ⟨q + d, d, by omega, by omega, by omega⟩
  · rintro ⟨p, r, h3, h4, rfl⟩
    omega
theorem sweepB_iff {b t : Box} (hb : wide b) (ht : wide t) (q : P3) : inB (sweepB b t) q ↔ ∃ p r, inB b p ∧ inB t r ∧ q = addP p r := by
  constructor
  · rintro ⟨h1, h2, h3⟩
    obtain ⟨p1, r1, a1, b1, e1⟩ := (axis_add hb.1 ht.1).mp h1
    obtain ⟨p2, r2, a2, b2, e2⟩ := (axis_add hb.2.1 ht.2.1).mp h2
    obtain ⟨p3, r3, a3, b3, e3⟩ := (axis_add hb.2.2 ht.2.2).mp h3
    refine ⟨(p1, p2, p3), (r1, r2, r3), ⟨a1, a2, a3⟩, ⟨b1, b2, b3⟩, ?_⟩
    obtain ⟨q1, q2, q3⟩ := q
    show (q1, q2, q3) = (p1 + r1, p2 + r2, p3 + r3)
    rw [show q1 = p1 + r1 from e1, show q2 = p2 + r2 from e2, show q3 = p3 + r3 from e3]
  · rintro ⟨p, r, ⟨a1, a2, a3⟩, ⟨b1, b2, b3⟩, rfl⟩
    exact ⟨(axis_add hb.1 ht.1).mpr ⟨_, _, a1, b1, rfl⟩, (axis_add hb.2.1 ht.2.1).mpr ⟨_, _, a2, b2, rfl⟩, (axis_add hb.2.2 ht.2.2).mpr ⟨_, _, a3, b3, rfl⟩⟩
theorem barB_iff {b t : Box} (hb : wide b) (ht : wide t) (q : P3) : inB (barB b t) q ↔ ∃ p r, inB b p ∧ inB t r ∧ q = subP p r := by
  constructor
  · rintro ⟨h1, h2, h3⟩
    obtain ⟨p1, r1, a1, b1, e1⟩ := (axis_sub hb.1 ht.1).mp h1
    obtain ⟨p2, r2, a2, b2, e2⟩ := (axis_sub hb.2.1 ht.2.1).mp h2
    obtain ⟨p3, r3, a3, b3, e3⟩ := (axis_sub hb.2.2 ht.2.2).mp h3
    refine ⟨(p1, p2, p3), (r1, r2, r3), ⟨a1, a2, a3⟩, ⟨b1, b2, b3⟩, ?_⟩
    obtain ⟨q1, q2, q3⟩ := q
    show (q1, q2, q3) = (p1 - r1, p2 - r2, p3 - r3)
    rw [show q1 = p1 - r1 from e1, show q2 = p2 - r2 from e2, show q3 = p3 - r3 from e3]
  · rintro ⟨p, r, ⟨a1, a2, a3⟩, ⟨b1, b2, b3⟩, rfl⟩
    exact ⟨(axis_sub hb.1 ht.1).mpr ⟨_, _, a1, b1, rfl⟩, (axis_sub hb.2.1 ht.2.1).mpr ⟨_, _, a2, b2, rfl⟩, (axis_sub hb.2.2 ht.2.2).mpr ⟨_, _, a3, b3, rfl⟩⟩
/-- all pairs, the first outer -/
def pairs (g : Box → Box → Box) (bs ts : List Box) : List Box := bs.flatMap fun b => ts.map (g b)
theorem mem_pairs {g : Box → Box → Box} {bs ts : List Box} {c : Box} : c ∈ pairs g bs ts ↔ ∃ b ∈ bs, ∃ t ∈ ts, c = g b t := by
  unfold pairs
  rw [List.mem_flatMap]
  constructor
  · rintro ⟨b, hb, h⟩
    obtain ⟨t, ht, e⟩ := List.mem_map.mp h
    exact ⟨b, hb, t, ht, e.symm⟩
  · rintro ⟨b, hb, t, ht, e⟩
    exact ⟨b, hb, List.mem_map.mpr ⟨t, ht, e.symm⟩⟩
theorem swept_iff {L T : Sol} (hL : SolOk L) (hT : SolOk T) (q : P3) : (∃ c ∈ pairs sweepB (boxes L) (boxes T), inB c q) ↔ ∃ p r, pm L p ∧ pm T r ∧ q = addP p r := by
  constructor
  · rintro ⟨c, hc, h⟩
    obtain ⟨b, hb, t, ht, rfl⟩ := mem_pairs.mp hc
    obtain ⟨p, r, h1, h2, h3⟩ := (sweepB_iff (box_ok hL hb).1 (box_ok hT ht).1 q).mp h
    exact ⟨p, r, (pm_boxes hL p).mpr ⟨b, hb, h1⟩, (pm_boxes hT r).mpr ⟨t, ht, h2⟩, h3⟩
  · rintro ⟨p, r, h1, h2, h3⟩
    obtain ⟨b, hb, h1⟩ := (pm_boxes hL p).mp h1
    obtain ⟨t, ht, h2⟩ := (pm_boxes hT r).mp h2
    exact ⟨_, mem_pairs.mpr ⟨b, hb, t, ht, rfl⟩, (sweepB_iff (box_ok hL hb).1 (box_ok hT ht).1 q).mpr ⟨p, r, h1, h2, h3⟩⟩
theorem barred_iff {S T : Sol} (hS : SolOk S) (hT : SolOk T) (q : P3) : (∃ c ∈ pairs barB (boxes S) (boxes T), inB c q) ↔ ∃ p r, pm S p ∧ pm T r ∧ q = subP p r := by
  constructor
  · rintro ⟨c, hc, h⟩
    obtain ⟨b, hb, t, ht, rfl⟩ := mem_pairs.mp hc
    obtain ⟨p, r, h1, h2, h3⟩ := (barB_iff (box_ok hS hb).1 (box_ok hT ht).1 q).mp h
    exact ⟨p, r, (pm_boxes hS p).mpr ⟨b, hb, h1⟩, (pm_boxes hT r).mpr ⟨t, ht, h2⟩, h3⟩
  · rintro ⟨p, r, h1, h2, h3⟩
    obtain ⟨b, hb, h1⟩ := (pm_boxes hS p).mp h1
    obtain ⟨t, ht, h2⟩ := (pm_boxes hT r).mp h2
    exact ⟨_, mem_pairs.mpr ⟨b, hb, t, ht, rfl⟩, (barB_iff (box_ok hS hb).1 (box_ok hT ht).1 q).mpr ⟨p, r, h1, h2, h3⟩⟩

/-! ### neighbours -/
def grow (b : Box) (a : Nat) : Box :=
  ((if 0 = a then b.1.1 - 1 else b.1.1, if 1 = a then b.1.2.1 - 1 else b.1.2.1, if 2 = a then b.1.2.2 - 1 else b.1.2.2), (if 0 = a then b.2.1 + 1 else b.2.1, if 1 = a then b.2.2.1 + 1 else b.2.2.1, if 2 = a then b.2.2.2 + 1 else b.2.2.2))
def grows (b : Box) : List Box := [grow b 0, grow b 1, grow b 2]
def nbBoxes (bs : List Box) : List Box := bs ++ bs.flatMap grows
def stepP (p : P3) (a : Nat) (sg : Int) : P3 := (if 0 = a then p.1 + sg else p.1, if 1 = a then p.2.1 + sg else p.2.1, if 2 = a then p.2.2 + sg else p.2.2)
def stepsP (p : P3) : List P3 := [stepP p 0 (-1), stepP p 0 1, stepP p 1 (-1), stepP p 1 1, stepP p 2 (-1), stepP p 2 1]
def Near (p q : P3) : Prop := q = p ∨ q ∈ stepsP p
theorem grow_iff {b : Box} (hb : wide b) (q : P3) : (inB b q ∨ ∃ c ∈ grows b, inB c q) ↔ ∃ p, inB b p ∧ Near p q := by
  obtain ⟨⟨x0, y0, z0⟩, ⟨x1, y1, z1⟩⟩ := b
  obtain ⟨x, y, z⟩ := q
  obtain ⟨w1, w2, w3⟩ : x0 < x1 ∧ y0 < y1 ∧ z0 < z1 := hb
  constructor
  · rintro (h | ⟨c, hc, h⟩)
    · exact ⟨_, h, .inl rfl⟩
    · have hc : c = grow ((x0, y0, z0), (x1, y1, z1)) 0 ∨ c = grow ((x0, y0, z0), (x1, y1, z1)) 1 ∨ c = grow ((x0, y0, z0), (x1, y1, z1)) 2 := by simpa [grows] using hc
      rcases hc with rfl | rfl | rfl
      · obtain ⟨⟨h1, h2⟩, ⟨h3, h4⟩, ⟨h5, h6⟩⟩ : (x0 - 1 ≤ x ∧ x < x1 + 1) ∧ (y0 ≤ y ∧ y < y1) ∧ (z0 ≤ z ∧ z < z1) := h
        by_cases hx : x < x0
        · exact ⟨(x + 1, y, z), ⟨⟨show x0 ≤ x + 1 by omega, show x + 1 < x1 by omega⟩, ⟨h3, h4⟩, ⟨h5, h6⟩⟩, .inr (by simp only [stepsP, List.mem_cons]; left; show (x, y, z) = (x + 1 + -1, y, z); congr 1; omega)⟩
        · by_cases hx' : x < x1
          · exact ⟨(x, y, z), ⟨⟨show x0 ≤ x by omega, hx'⟩, ⟨h3, h4⟩, ⟨h5, h6⟩⟩, .inl rfl⟩
          · exact ⟨(x - 1, y, z), ⟨⟨show x0 ≤ x - 1 by omega, show x - 1 < x1 by omega⟩, ⟨h3, h4⟩, ⟨h5, h6⟩⟩, .inr (by simp only [stepsP, List.mem_cons]; right; left; show (x, y, z) = (x - 1 + 1, y, z); congr 1; omega)⟩
      · obtain ⟨⟨h1, h2⟩, ⟨h3, h4⟩, ⟨h5, h6⟩⟩ : (x0 ≤ x ∧ x < x1) ∧ (y0 - 1 ≤ y ∧ y < y1 + 1) ∧ (z0 ≤ z ∧ z < z1) := h
        by_cases hx : y < y0
        · exact ⟨(x, y + 1, z), ⟨⟨h1, h2⟩, ⟨show y0 ≤ y + 1 by omega, show y + 1 < y1 by omega⟩, ⟨h5, h6⟩⟩, .inr (by simp only [stepsP, List.mem_cons]; right; right; left; show (x, y, z) = (x, y + 1 + -1, z); congr 2; omega)⟩
        · by_cases hx' : y < y1
          · exact ⟨(x, y, z), ⟨⟨h1, h2⟩, ⟨show y0 ≤ y by omega, hx'⟩, ⟨h5, h6⟩⟩, .inl rfl⟩
          · exact ⟨(x, y - 1, z), ⟨⟨h1, h2⟩, ⟨show y0 ≤ y - 1 by omega, show y - 1 < y1 by omega⟩, ⟨h5, h6⟩⟩, .inr (by simp only [stepsP, List.mem_cons]; right; right; right; left; show (x, y, z) = (x, y - 1 + 1, z); congr 2; omega)⟩
      · obtain ⟨⟨h1, h2⟩, ⟨h3, h4⟩, ⟨h5, h6⟩⟩ : (x0 ≤ x ∧ x < x1) ∧ (y0 ≤ y ∧ y < y1) ∧ (z0 - 1 ≤ z ∧ z < z1 + 1) := h
        by_cases hx : z < z0
        · exact ⟨(x, y, z + 1), ⟨⟨h1, h2⟩, ⟨h3, h4⟩, ⟨show z0 ≤ z + 1 by omega, show z + 1 < z1 by omega⟩⟩, .inr (by simp only [stepsP, List.mem_cons]; right; right; right; right; left; show (x, y, z) = (x, y, z + 1 + -1); congr 2; omega)⟩
        · by_cases hx' : z < z1
          · exact ⟨(x, y, z), ⟨⟨h1, h2⟩, ⟨h3, h4⟩, ⟨show z0 ≤ z by omega, hx'⟩⟩, .inl rfl⟩
          · exact ⟨(x, y, z - 1), ⟨⟨h1, h2⟩, ⟨h3, h4⟩, ⟨show z0 ≤ z - 1 by omega, show z - 1 < z1 by omega⟩⟩, .inr (by simp only [stepsP, List.mem_cons]; right; right; right; right; right; left; show (x, y, z) = (x, y, z - 1 + 1); congr 2; omega)⟩
  · rintro ⟨⟨a, c, d⟩, ⟨⟨h1, h2⟩, ⟨h3, h4⟩, ⟨h5, h6⟩⟩, hn⟩
    have h1 : x0 ≤ a := h1
    have h2 : a < x1 := h2
    have h3 : y0 ≤ c := h3
    have h4 : c < y1 := h4
    have h5 : z0 ≤ d := h5
    have h6 : d < z1 := h6
    rcases hn with e | hn
    · injection e with e1 e
      injection e with e2 e3
      subst e1 e2 e3
      exact .inl ⟨⟨h1, h2⟩, ⟨h3, h4⟩, ⟨h5, h6⟩⟩
    · have hn : (x, y, z) = (a + -1, c, d) ∨ (x, y, z) = (a + 1, c, d) ∨ (x, y, z) = (a, c + -1, d) ∨ (x, y, z) = (a, c + 1, d) ∨ (x, y, z) = (a, c, d + -1) ∨ (x, y, z) = (a, c, d + 1) := by
        simpa [stepsP, stepP] using hn
      have g0 : grow ((x0, y0, z0), (x1, y1, z1)) 0 ∈ grows ((x0, y0, z0), (x1, y1, z1)) := List.mem_cons_self
      have g1 : grow ((x0, y0, z0), (x1, y1, z1)) 1 ∈ grows ((x0, y0, z0), (x1, y1, z1)) := List.mem_cons_of_mem _ List.mem_cons_self
      have g2 : grow ((x0, y0, z0), (x1, y1, z1)) 2 ∈ grows ((x0, y0, z0), (x1, y1, z1)) := List.mem_cons_of_mem _ (List.mem_cons_of_mem _ List.mem_cons_self)
      right
      rcases hn with e | e | e | e | e | e
      all_goals
        injection e with e1 e
        injection e with e2 e3
      · exact ⟨_, g0, show (x0 - 1 ≤ x ∧ x < x1 + 1) ∧ (y0 ≤ y ∧ y < y1) ∧ (z0 ≤ z ∧ z < z1) by omega⟩
      · exact ⟨_, g0, show (x0 - 1 ≤ x ∧ x < x1 + 1) ∧ (y0 ≤ y ∧ y < y1) ∧ (z0 ≤ z ∧ z < z1) by omega⟩
      · exact ⟨_, g1, show (x0 ≤ x ∧ x < x1) ∧ (y0 - 1 ≤ y ∧ y < y1 + 1) ∧ (z0 ≤ z ∧ z < z1) by omega⟩
      · exact ⟨_, g1, show (x0 ≤ x ∧ x < x1) ∧ (y0 - 1 ≤ y ∧ y < y1 + 1) ∧ (z0 ≤ z ∧ z < z1) by omega⟩
      · exact ⟨_, g2, show (x0 ≤ x ∧ x < x1) ∧ (y0 ≤ y ∧ y < y1) ∧ (z0 - 1 ≤ z ∧ z < z1 + 1) by omega⟩
      · exact ⟨_, g2, show (x0 ≤ x ∧ x < x1) ∧ (y0 ≤ y ∧ y < y1) ∧ (z0 - 1 ≤ z ∧ z < z1 + 1) by omega⟩
theorem nb_iff {L : Sol} (hL : SolOk L) (q : P3) : (∃ c ∈ nbBoxes (boxes L), inB c q) ↔ ∃ p, pm L p ∧ Near p q := by
  unfold nbBoxes
  constructor
  · rintro ⟨c, hc, h⟩
    rcases List.mem_append.mp hc with hc | hc
    · exact ⟨q, (pm_boxes hL q).mpr ⟨c, hc, h⟩, .inl rfl⟩
    · obtain ⟨b, hb, hc⟩ := List.mem_flatMap.mp hc
      obtain ⟨p, h1, h2⟩ := (grow_iff (box_ok hL hb).1 q).mp (.inr ⟨c, hc, h⟩)
      exact ⟨p, (pm_boxes hL p).mpr ⟨b, hb, h1⟩, h2⟩
  · rintro ⟨p, h1, h2⟩
    obtain ⟨b, hb, h1⟩ := (pm_boxes hL p).mp h1
    rcases (grow_iff (box_ok hL hb).1 q).mpr ⟨p, h1, h2⟩ with h | ⟨c, hc, h⟩
    · exact ⟨b, List.mem_append_left _ hb, h⟩
    · exact ⟨c, List.mem_append_right _ (List.mem_flatMap.mpr ⟨b, hb, hc⟩), h⟩

/-! ### bounds of a solid that has known cubes -/
def rngB (a c : Int) (b : Box) : Prop := (a ≤ b.1.1 ∧ b.2.1 ≤ c) ∧ (a ≤ b.1.2.1 ∧ b.2.2.1 ≤ c) ∧ (a ≤ b.1.2.2 ∧ b.2.2.2 ≤ c)
theorem boxes_rng {s : Sol} (h : SolOk s) {bs : List Box} (hs : ∀ q, pm s q ↔ ∃ b ∈ bs, inB b q) {a c : Int} (hb : ∀ b ∈ bs, rngB a c b) : ∀ b ∈ boxes s, rngB a c b := by
  intro b hm
  obtain ⟨w1, w2, w3⟩ := (box_ok h hm).1
  obtain ⟨b1, hb1, i1, i2, i3⟩ := (hs b.1).mp ((pm_boxes h b.1).mpr ⟨b, hm, ⟨Int.le_refl _, w1⟩, ⟨Int.le_refl _, w2⟩, ⟨Int.le_refl _, w3⟩⟩)
  obtain ⟨b2, hb2, j1, j2, j3⟩ := (hs (b.2.1 - 1, b.2.2.1 - 1, b.2.2.2 - 1)).mp ((pm_boxes h _).mpr ⟨b, hm, ⟨show b.1.1 ≤ b.2.1 - 1 by omega, show b.2.1 - 1 < b.2.1 by omega⟩, ⟨show b.1.2.1 ≤ b.2.2.1 - 1 by omega, show b.2.2.1 - 1 < b.2.2.1 by omega⟩, ⟨show b.1.2.2 ≤ b.2.2.2 - 1 by omega, show b.2.2.2 - 1 < b.2.2.2 by omega⟩⟩)
  obtain ⟨r1, r2, r3⟩ := hb b1 hb1
  obtain ⟨t1, t2, t3⟩ := hb b2 hb2
  have j1 : b2.1.1 ≤ b.2.1 - 1 ∧ b.2.1 - 1 < b2.2.1 := j1
  have j2 : b2.1.2.1 ≤ b.2.2.1 - 1 ∧ b.2.2.1 - 1 < b2.2.2.1 := j2
  have j3 : b2.1.2.2 ≤ b.2.2.2 - 1 ∧ b.2.2.2 - 1 < b2.2.2.2 := j3
  exact ⟨⟨by omega, by omega⟩, ⟨by omega, by omega⟩, ⟨by omega, by omega⟩⟩
theorem boxes_count {s : Sol} (h : SolOk s) {bs : List Box} (hs : ∀ q, pm s q ↔ ∃ b ∈ bs, inB b q) : (boxes s).length ≤ (cellDict bs).length := by
  refine Nat.le_trans (len_boxes_cells fun b hb => (box_ok h hb).1) (nodup_len (nodup_cells h) fun q hq => ?_)
  exact mem_cellDict.mpr ((hs q).mp ((pm_boxes h q).mpr (mem_cells.mp hq)))
/-- unit cubes in a box of a given width -/
def small (b : Box) : Prop := wide b ∧ b.2.1 ≤ b.1.1 + 3 ∧ b.2.2.1 ≤ b.1.2.1 + 3 ∧ b.2.2.2 ≤ b.1.2.2 + 3
theorem vol_small {b : Box} (h : small b) : (cellsOf b).length ≤ 27 := by
  obtain ⟨⟨w1, w2, w3⟩, h1, h2, h3⟩ := h
  have e1 : (cellsOf b).length = (b.2.1 - b.1.1).toNat * ((b.2.2.1 - b.1.2.1).toNat * (b.2.2.2 - b.1.2.2).toNat) := by
    unfold cellsOf
    rw [len_flat (n := (b.2.2.1 - b.1.2.1).toNat * (b.2.2.2 - b.1.2.2).toNat) fun x _ => ?_, len_rng]
    unfold cellsX
    rw [len_flat (n := (b.2.2.2 - b.1.2.2).toNat) fun y _ => ?_, len_rng]
    unfold cellsY
    rw [List.length_map, len_rng]
  rw [e1]
  have a1 : (b.2.1 - b.1.1).toNat ≤ 3 := by omega
  have a2 : (b.2.2.1 - b.1.2.1).toNat ≤ 3 := by omega
  have a3 : (b.2.2.2 - b.1.2.2).toNat ≤ 3 := by omega
  exact Nat.le_trans (Nat.mul_le_mul a1 (Nat.mul_le_mul a2 a3)) (by decide)
theorem cellDict_le : ∀ {bs : List Box}, (∀ b ∈ bs, small b) → (cellDict bs).length ≤ 27 * bs.length := by
  intro bs h
  unfold cellDict
  refine Nat.le_trans insAll_len ?_
  show 0 + _ ≤ _
  rw [Nat.zero_add]
  induction bs with
  | nil => exact Nat.le_refl _
  | cons b r ih =>
    have ih := ih fun c hc => h c (List.mem_cons_of_mem _ hc)
    have e1 : cells (b :: r) = cellsOf b ++ cells r := List.flatMap_cons
    have hv := vol_small (h b List.mem_cons_self)
    rw [e1, List.length_append, List.length_cons]
    omega

/-! ### moved -/
theorem val_shift {A C : Type} {e : A} {g : A → C} {k : Int} : ∀ {s : Sx A} {z : Int}, val (g e) (s.map fun p => (p.1 + k, p.2.1 + k, g p.2.2)) z = g (val e s (z - k))
  | [], _ => rfl
  | p :: r, z => by
    show (if p.1 + k ≤ z ∧ z < p.2.1 + k then g p.2.2 else val (g e) (r.map fun p => (p.1 + k, p.2.1 + k, g p.2.2)) z) = g (if p.1 ≤ z - k ∧ z - k < p.2.1 then p.2.2 else val e r (z - k))
    rw [val_shift]
    by_cases h : p.1 ≤ z - k ∧ z - k < p.2.1
    · rw [if_pos h, if_pos (by omega)]
    · rw [if_neg h, if_neg (by omega)]
def movR (x : Int) (r : Row) : Row := r.map fun p => (p.1 + x, p.2 + x)
def movL (y x : Int) (l : Layer) : Layer := l.map fun p => (p.1 + y, p.2.1 + y, movR x p.2.2)
def movS (z y x : Int) (s : Sol) : Sol := s.map fun p => (p.1 + z, p.2.1 + z, movL y x p.2.2)
theorem rmem_mov (x : Int) (r : Row) (q : Int) : rmem (movR x r) q = rmem r (q - x) := by
  have e1 : rs (movR x r) = (rs r).map fun p => (p.1 + x, p.2.1 + x, id p.2.2) := by
    unfold rs movR
    rw [List.map_map, List.map_map]
    rfl
  show val false (rs (movR x r)) q = val false (rs r) (q - x)
  rw [e1]
  exact val_shift (e := false) (g := id)
theorem lmem_mov (y x : Int) (l : Layer) (p q : Int) : lmem (movL y x l) p q = lmem l (p - y) (q - x) := by
  show rmem (val [] (movL y x l) p) q = rmem (val [] l (p - y)) (q - x)
  have e1 : val ([] : Row) (movL y x l) p = movR x (val [] l (p - y)) := val_shift (e := ([] : Row)) (g := movR x)
  rw [e1, rmem_mov]
theorem smem_mov (z y x : Int) (s : Sol) (o p q : Int) : smem (movS z y x s) o p q = smem s (o - z) (p - y) (q - x) := by
  show lmem (val [] (movS z y x s) o) p q = lmem (val [] s (o - z)) (p - y) (q - x)
  have e1 : val ([] : Layer) (movS z y x s) o = movL y x (val [] s (o - z)) := val_shift (e := ([] : Layer)) (g := movL y x)
  rw [e1, lmem_mov]
theorem pm_mov (s : Sol) (q k : P3) : pm (movS k.2.2 k.2.1 k.1 s) q ↔ pm s (subP q k) := by
  unfold pm
  rw [smem_mov]
  exact Iff.rfl
theorem map_inj {A B : Type} {g : A → B} (hg : ∀ a b, g a = g b → a = b) : ∀ {l m : List A}, l.map g = m.map g → l = m
  | [], [], _ => rfl
  | [], _ :: _, h => nomatch h
  | _ :: _, [], h => nomatch h
  | a :: l, b :: m, h => by
    rw [List.map_cons, List.map_cons] at h
    injection h with h1 h2
    rw [hg a b h1, map_inj hg h2]
theorem movR_inj {x : Int} {r t : Row} (h : movR x r = movR x t) : r = t := by
  refine map_inj (g := fun p : Int × Int => (p.1 + x, p.2 + x)) (fun a b e => ?_) h
  obtain ⟨a1, a2⟩ := a
  obtain ⟨b1, b2⟩ := b
  injection e with e1 e2
  have e1 : a1 + x = b1 + x := e1
  have e2 : a2 + x = b2 + x := e2
  rw [show a1 = b1 by omega, show a2 = b2 by omega]
theorem movL_inj {y x : Int} {l t : Layer} (h : movL y x l = movL y x t) : l = t := by
  refine map_inj (g := fun p : Int × Int × Row => (p.1 + y, p.2.1 + y, movR x p.2.2)) (fun a b e => ?_) h
  obtain ⟨a1, a2, a3⟩ := a
  obtain ⟨b1, b2, b3⟩ := b
  injection e with e1 e2
  injection e2 with e2 e3
  have e1 : a1 + y = b1 + y := e1
  have e2 : a2 + y = b2 + y := e2
  rw [show a1 = b1 by omega, show a2 = b2 by omega, movR_inj (show movR x a3 = movR x b3 from e3)]
theorem map_nil_iff {A B : Type} {g : A → B} {l : List A} (h : l ≠ []) : l.map g ≠ [] := by
  cases l with
  | nil => exact absurd rfl h
  | cons a r => exact List.cons_ne_nil _ _
def In10 (x : Int) : Prop := -10 ≤ x ∧ x ≤ 10
theorem In10.bd {x k : Int} (h : In10 x) (hk : In10 k) : Bd (x + k) := ⟨by have := h.1; have := hk.1; omega, by have := h.2; have := hk.2; omega⟩
/-- all numbers of a row, a layer, a solid are near 0 -/
def n10R (r : Row) : Prop := ∀ p ∈ r, In10 p.1 ∧ In10 p.2
def n10L (l : Layer) : Prop := ∀ p ∈ l, In10 p.1 ∧ In10 p.2.1 ∧ n10R p.2.2
def n10S (s : Sol) : Prop := ∀ p ∈ s, In10 p.1 ∧ In10 p.2.1 ∧ n10L p.2.2
theorem movR_ok {x : Int} {r : Row} (h : RowOk r) (n : n10R r) (hx : In10 x) : RowOk (movR x r) := by
  have e1 : rs (movR x r) = (rs r).map fun p => (p.1 + x, p.2.1 + x, p.2.2) := by
    unfold rs movR
    rw [List.map_map, List.map_map]
    rfl
  show Ok false (fun _ => True) (rs (movR x r))
  rw [e1]
  refine ⟨fun p hp => ?_, ?_⟩
  · obtain ⟨q, hq, rfl⟩ := List.mem_map.mp hp
    obtain ⟨h1, h2, h3, _, _⟩ := h.each q hq
    unfold rs at hq
    obtain ⟨t, ht, rfl⟩ := List.mem_map.mp hq
    obtain ⟨n1, n2⟩ := n t ht
    exact ⟨show t.1 + x < t.2 + x by have : t.1 < t.2 := h1; omega, h2, h3, n1.bd hx, n2.bd hx⟩
  · rw [List.pairwise_map]
    refine List.Pairwise.imp (fun {p q} hpq => ?_) h.asc
    rcases hpq with h1 | ⟨h1, h2⟩
    · exact .inl (show p.2.1 + x < q.1 + x by omega)
    · exact .inr ⟨show p.2.1 + x = q.1 + x by omega, h2⟩
theorem movL_ok {y x : Int} {l : Layer} (h : LayOk l) (n : n10L l) (hy : In10 y) (hx : In10 x) : LayOk (movL y x l) := by
  refine ⟨fun p hp => ?_, ?_⟩
  · obtain ⟨q, hq, rfl⟩ := List.mem_map.mp hp
    obtain ⟨h1, h2, h3, _, _⟩ := h.each q hq
    obtain ⟨n1, n2, n3⟩ := n q hq
    exact ⟨show q.1 + y < q.2.1 + y by omega, map_nil_iff h2, movR_ok h3 n3 hx, n1.bd hy, n2.bd hy⟩
  · show (l.map _).Pairwise Af
    rw [List.pairwise_map]
    refine List.Pairwise.imp (fun {p q} hpq => ?_) h.asc
    rcases hpq with h1 | ⟨h1, h2⟩
    · exact .inl (show p.2.1 + y < q.1 + y by omega)
    · exact .inr ⟨show p.2.1 + y = q.1 + y by omega, fun e => h2 (movR_inj e)⟩
theorem movS_ok {z y x : Int} {s : Sol} (h : SolOk s) (n : n10S s) (hz : In10 z) (hy : In10 y) (hx : In10 x) : SolOk (movS z y x s) := by
  refine ⟨fun p hp => ?_, ?_⟩
  · obtain ⟨q, hq, rfl⟩ := List.mem_map.mp hp
    obtain ⟨h1, h2, h3, _, _⟩ := h.each q hq
    obtain ⟨n1, n2, n3⟩ := n q hq
    exact ⟨show q.1 + z < q.2.1 + z by omega, map_nil_iff h2, movL_ok h3 n3 hy hx, n1.bd hz, n2.bd hz⟩
  · show (s.map _).Pairwise Af
    rw [List.pairwise_map]
    refine List.Pairwise.imp (fun {p q} hpq => ?_) h.asc
    rcases hpq with h1 | ⟨h1, h2⟩
    · exact .inl (show p.2.1 + z < q.1 + z by omega)
    · exact .inr ⟨show p.2.1 + z = q.1 + z by omega, fun e => h2 (movL_inj e)⟩
/-- from the boxes' range -/
theorem n10_of {s : Sol} (h : SolOk s) (hb : ∀ b ∈ boxes s, rngB (-10) 10 b) : n10S s := by
  intro p hp
  have lo := (h.each p hp).2.2.1
  have all : ∀ l ∈ p.2.2, ∀ r ∈ l.2.2, rngB (-10) 10 ((r.1, l.1, p.1), (r.2, l.2.1, p.2.1)) := fun l hl r hr => hb _ (mem_boxes.mpr ⟨p, hp, l, hl, r, hr, rfl⟩)
  have w1 := (h.each p hp).1
  obtain ⟨l0, t0, e0⟩ := List.exists_cons_of_ne_nil (h.each p hp).2.1
  have hl0 : l0 ∈ p.2.2 := by rw [e0]; exact List.mem_cons_self
  have lk : ∀ l ∈ p.2.2, ∃ r, r ∈ l.2.2 := fun l hl => by
    obtain ⟨r0, t1, e1⟩ := List.exists_cons_of_ne_nil (Ok.each lo l hl).2.1
    exact ⟨r0, by rw [e1]; exact List.mem_cons_self⟩
  obtain ⟨r0, hr0⟩ := lk l0 hl0
  obtain ⟨_, _, ⟨z1, z2⟩⟩ := all l0 hl0 r0 hr0
  have z1 : -10 ≤ p.1 := z1
  have z2 : p.2.1 ≤ 10 := z2
  refine ⟨⟨by omega, by omega⟩, ⟨by omega, by omega⟩, fun l hl => ?_⟩
  have w2 := (Ok.each lo l hl).1
  obtain ⟨r1, hr1⟩ := lk l hl
  obtain ⟨_, ⟨y1, y2⟩, _⟩ := all l hl r1 hr1
  have y1 : -10 ≤ l.1 := y1
  have y2 : l.2.1 ≤ 10 := y2
  refine ⟨⟨by omega, by omega⟩, ⟨by omega, by omega⟩, fun r hr => ?_⟩
  have w3 := (RowOk.at (Ok.each lo l hl).2.2.1 hr).1
  obtain ⟨⟨x1, x2⟩, _, _⟩ := all l hl r hr
  have x1 : -10 ≤ r.1 := x1
  have x2 : r.2 ≤ 10 := x2
  exact ⟨⟨by omega, by omega⟩, ⟨by omega, by omega⟩⟩
end K4
/-! B1_Rules: what the hand layer lacks: slices with step 2, enumerate of a tuple, dict(d) and == for dicts with tuple keys, the walk of zip over tuples. -/
namespace K4
open PySem PySem.Spec PyProof.Rows L2

/-! ### every second item -/
def everyTwo {A : Type} : List A → List A
  | [] => []
  | [a] => [a]
  | a :: _ :: r => a :: everyTwo r
theorem pick2 {A : Type} : ∀ l : List A, (List.range ((l.length + 1) / 2)).filterMap (fun k => l[2 * k]?) = everyTwo l
  | [] => by simp [everyTwo]
  | [a] => by
    have e1 : ([a].length + 1) / 2 = 1 := by simp
    rw [e1]
    rfl
  | a :: b :: r => by
    have ih := pick2 r
    have e1 : ((a :: b :: r).length + 1) / 2 = (r.length + 1) / 2 + 1 := by
      rw [List.length_cons, List.length_cons]
      omega
    rw [e1, List.range_succ_eq_map, List.filterMap_cons]
    show a :: _ = a :: everyTwo r
    rw [List.filterMap_map, ← ih]
    rfl
theorem everyTwo_len {A : Type} : ∀ l : List A, (everyTwo l).length = (l.length + 1) / 2
  | [] => by simp [everyTwo]
  | [a] => by
    have e1 : ([a].length + 1) / 2 = 1 := by simp
    rw [e1]
    rfl
  | a :: b :: r => by
    have ih := everyTwo_len r
    show (everyTwo r).length + 1 = ((a :: b :: r).length + 1) / 2
    rw [ih, List.length_cons, List.length_cons]
    omega
theorem everyTwo_get {A : Type} : ∀ (l : List A) (i : Nat), (everyTwo l)[i]? = l[2 * i]?
  | [], i => by simp [everyTwo]
  | [a], 0 => rfl
  | [a], i + 1 => by
    show ([] : List A)[i]? = [a][2 * (i + 1)]?
    have : 2 * (i + 1) = (2 * i + 1) + 1 := by omega
    rw [this]
    rfl
  | a :: b :: r, 0 => rfl
  | a :: b :: r, i + 1 => by
    have ih := everyTwo_get r i
    have : 2 * (i + 1) = (2 * i + 1) + 1 := by omega
    rw [this]
    show (everyTwo r)[i]? = r[2 * i]?
    exact ih
theorem Vals.everyTwo : ∀ {xs : List V} {us : List Value}, Vals xs us → Vals (everyTwo xs) (everyTwo us)
  | _, _, .nil => .nil
  | _, _, .cons r .nil => .cons r .nil
  | _, _, .cons r (.cons _ t) => .cons r (Vals.everyTwo t)
theorem pick_d (its : List Value) : slicePick its.toArray none none (some 2) = (everyTwo (its.drop 0)).toArray := by
  unfold slicePick
  have hb : sliceBounds none none (some 2) its.toArray.size = (0, (its.length : Int), 2) := by simp [sliceBounds]
  rw [hb, List.drop_zero, ← pick2 its]
  show ((sliceRange 0 (its.length : Int) 2).filterMap (its.toArray[·]?)).toArray = _
  have hr : sliceRange 0 (its.length : Int) 2 = (List.range ((its.length + 1) / 2)).map fun k => 2 * k := by
    unfold sliceRange
    have h2 : (2 : Int) > 0 := by decide
    simp only [h2, if_true]
    by_cases h : (0 : Int) < (its.length : Int)
    · rw [if_pos h]
      have e : (((its.length : Int) - 0 + 2 - 1) / 2).toNat = (its.length + 1) / 2 := by omega
      rw [e]
      refine List.map_congr_left fun k _ => ?_
      omega
    · rw [if_neg h]
      have e : its.length = 0 := by omega
      rw [e]
      rfl
  rw [hr, List.filterMap_map]
  congr 1
  refine congrArg (fun g => List.filterMap g _) (funext fun k => ?_)
  show its.toArray[2 * k]? = its[2 * k]?
  rw [List.getElem?_toArray]
theorem pick_d1 (its : List Value) : slicePick its.toArray (some 1) none (some 2) = (everyTwo (its.drop 1)).toArray := by
  unfold slicePick
  have hb : sliceBounds (some 1) none (some 2) its.toArray.size = (max 0 (min 1 (its.length : Int)), (its.length : Int), 2) := by simp [sliceBounds]
  rw [hb, ← pick2 (its.drop 1)]
  show ((sliceRange (max 0 (min 1 (its.length : Int))) (its.length : Int) 2).filterMap (its.toArray[·]?)).toArray = _
  have hr : sliceRange (max 0 (min 1 (its.length : Int))) (its.length : Int) 2 = (List.range (((its.drop 1).length + 1) / 2)).map fun k => 2 * k + 1 := by
    unfold sliceRange
    have h2 : (2 : Int) > 0 := by decide
    simp only [h2, if_true, List.length_drop]
    by_cases h : max 0 (min 1 (its.length : Int)) < (its.length : Int)
    · rw [if_pos h]
      have e : (((its.length : Int) - max 0 (min 1 (its.length : Int)) + 2 - 1) / 2).toNat = (its.length - 1 + 1) / 2 := by omega
      rw [e]
      refine List.map_congr_left fun k _ => ?_
      omega
    · rw [if_neg h]
      have e : (its.length - 1 + 1) / 2 = 0 := by omega
      rw [e]
      rfl
  rw [hr, List.filterMap_map]
  congr 1
  refine congrArg (fun g => List.filterMap g _) (funext fun k => ?_)
  show its.toArray[2 * k + 1]? = (its.drop 1)[2 * k]?
  rw [List.getElem?_drop, List.getElem?_toArray, Nat.add_comm 1 (2 * k)]
/-! ### every second item of a list, as an expression -/
def tStep2 (K : PySem.W.Frag) (d : Nat) (te : TE) : TE := fun σ H Q => te σ H fun x H1 => ∃ a xs, x = .ref a ∧ SqL K H1 a xs ∧ ∀ p, H1 p = none → Q (.ref p) (upd H1 p (.lst (everyTwo (xs.drop d))))
section
variable {X : Cx}
/-- a part that changes nothing and gives c -/
def Steady (X : Cx) (o : Option Expr) (c : Option Int) : Prop := ∀ {pins : List (Addr × Obj)} {s : Shared} {σ : L2.St} {H : Hp}, Inv X pins σ H s → wpAny (model X.prog X.w) X.A (evalPart o X.env) (fun u s' => Inv X pins σ H s' ∧ IsPart u c) X.xe s
theorem steady_gap : Steady X none none := fun {pins s σ H} I => thn (po_none.run pins s σ H (fun c h => c = none ∧ h = H) I ⟨rfl, rfl⟩) (by
  rintro u s' ⟨_, _, I', p, rfl, rfl⟩
  exact ⟨I', p⟩)
theorem steady_lit {n : Int} {k : Nat} {p : Pos} : Steady X (some (.Constant (.int n) k p)) (some n) := fun {pins s σ H} I =>
  thn ((po_some pe_int).run pins s σ H (fun c h => c = some n ∧ h = H) I ⟨n, rfl, rfl, rfl⟩) (by
    rintro u s' ⟨_, _, I', p, rfl, rfl⟩
    exact ⟨I', p⟩)
theorem pe_second {e : Expr} {lo : Option Expr} {te : TE} {b : Option Int} {d k : Nat} {p2 p3 pos : Pos} (he : PE X e te) (low : Steady X lo b)
    (pick : ∀ its : List Value, slicePick its.toArray b none (some 2) = (everyTwo (its.drop d)).toArray) : PE X (.Subscript e (.Slice lo none (some (.Constant (.int 2) k p2)) p3) pos) (tStep2 X.K d te) := by
  constructor
  intro pins s σ H Q I want
  apply Subscript_
  apply thn (he.run pins s σ H _ I want)
  rintro _ s1 ⟨_, H1, I1, rel, l, xs, rfl, at1, want1⟩
  cases rel
  apply wpAny_Slice
  apply thn (low I1)
  rintro ul s2 ⟨I2, pl⟩
  apply thn (steady_gap I2)
  rintro uu s3 ⟨I3, pu⟩
  apply thn (steady_lit I3)
  rintro us s4 ⟨I4, ps⟩
  let hs := s4.heap.push { cls := .type "slice", data := .fields #[ul, uu, us] }
  have I5 : Inv X pins σ H1 { s4 with heap := hs } := Inv.kept I4 (t' := s4.toks) fun _ _ => Heap.get?_push_of_some _
  obtain ⟨its, rel, isl, small⟩ := I5.list at1
  have len := rel.length
  show wpAny (model X.prog X.w) X.A (subscriptTail e (.Slice lo none (some (.Constant (.int 2) k p2)) p3) (.ref l) (.ref s4.heap.objs.size)) (EP X pins σ Q) X.xe { s4 with heap := hs }
  refine tail_any (ops := [.ref l, .ref s4.heap.objs.size]) isl.isList.typeIs PySem.slot_list_getitem.lookup ?go ?tr
  case go =>
    apply wpAny_getItem_list_slice isl.isList (Heap.IsSliceOf.new _ ul uu us) pl pu ps (by decide)
    · rw [pick]
      have lay : ObjOk X.prog X.w (upd H1 hs.objs.size (.lst (everyTwo (xs.drop d)))) (hs.push { cls := .type "list", data := .seq (everyTwo (its.drop d)).toArray }) hs.objs.size (.lst (everyTwo (xs.drop d))) :=
        ⟨by rw [everyTwo_len, List.length_drop]; omega, _, 0, Vals.everyTwo (rel.drop d), Heap.get?_push_size _ rfl⟩
      exact ⟨.ref _, _, I5.laid (t' := s4.toks) (fun _ _ => Heap.get?_push_of_some _) (Nat.le_refl _) lay, rfl, want1 _ (I5.hok.fresh (Nat.le_refl _))⟩
  case tr => with_unfolding_all rfl
theorem pe_step0 {e : Expr} {te : TE} {k : Nat} {p2 p3 pos : Pos} (he : PE X e te) : PE X (.Subscript e (.Slice none none (some (.Constant (.int 2) k p2)) p3) pos) (tStep2 X.K 0 te) := pe_second he steady_gap pick_d
theorem pe_step1 {e : Expr} {te : TE} {k k1 : Nat} {p1 p2 p3 pos : Pos} (he : PE X e te) : PE X (.Subscript e (.Slice (some (.Constant (.int 1) k1 p1)) none (some (.Constant (.int 2) k p2)) p3) pos) (tStep2 X.K 1 te) := pe_second he steady_lit pick_d1
end

/-! ### zip of two tuples, of any lengths -/
theorem walk_zipT {K : PySem.W.Frag} {a b : Addr} {xs ys : List V} {n : Nat} (hn : n = min xs.length ys.length) : Walk (RZ.ItzT K a b) n (fun H => SqT K H a xs ∧ SqT K H b ys) (YPair (fun i => xs[i]?) (fun i => ys[i]?)) where
  goes i H hi st := ⟨xs, ys, _, _, st.1, st.2, List.getElem?_eq_getElem (show i < xs.length by omega), List.getElem?_eq_getElem (show i < ys.length by omega)⟩
  stops H st := ⟨xs, ys, st.1, st.2, by omega⟩
  yields i H v H' _ st := fun ⟨T, u, w, e1, e2, e3, f, g⟩ => ⟨T, u, w, e1, e2, e3, f xs st.1, g ys st.2⟩

/-! ### enumerate of a tuple -/
/-- the record that enumerate lays over the iterator at i -/
def enumRec (i : Addr) : Obj := { cls := .type "enumerate", data := .fields #[.none, .bool false, .ref i, rawInt 0, .none, .none] }
set_option maxHeartbeats 2000000 in
theorem meets_enum1 {v : Value} {o : Obj} {Pre : Heap → Prop} (B : Begins v o Pre) :
    Meets (Builtin.«enumerate.__new__» ⟨[.type "enumerate", v], []⟩) (fun _ R s => Pre s.heap ∧ R (.ok (.ret (.ref (s.heap.push o).objs.size))) { s with heap := (s.heap.push o).push (enumRec s.heap.objs.size) }) :=
  Meets.of_wp fun prog w A R s want => by
    rcases s with ⟨mem, gs, dr, tk, os⟩
    rcases want with ⟨there, fin⟩
    unfold enumRec at fin
    have known := sub_enumerate
    have first : ∀ {A' : Around} {E' : Value → Shared → Prop} {Q' : Value → Shared → Prop}, Q' (.ref mem.objs.size) ⟨mem.push o, gs, dr, tk, os⟩ → wpAny (model prog w) A' (pyIter v) Q' E' ⟨mem, gs, dr, tk, os⟩ := fun got => B.iter prog w _ _ ⟨mem, gs, dr, tk, os⟩ _ there got
    wp_walk using first
    apply wpAny_stack_any
    intro st
    apply wpAny_pure
    split
    case h_1 cl _ _ _ _ _ =>
      by_cases own : (cl == Value.type "enumerate") = true
      · rw [own]
        wp_walk using first
        exact ⟨_, rfl, fin⟩
      · rw [Bool.not_eq_true] at own
        rw [own]
        wp_walk using first
        exact ⟨_, rfl, fin⟩
    case h_2 =>
      wp_walk using first
      exact ⟨_, rfl, fin⟩
theorem enum_begins1 {prog : Program} {w : World} {A : Around} {E : Value → Shared → Prop} {s : Shared} {v : Value} {o : Obj} {Pre : Heap → Prop} {Q : Value → Shared → Prop} (B : Begins v o Pre) (there : Pre s.heap)
    (fin : ∀ h', IsEnum h' (s.heap.objs.size + 1) s.heap.objs.size 0 .none → h'.get? s.heap.objs.size = some o → (∀ c u, s.heap.get? c = some u → h'.get? c = some u) → Q (.ref (s.heap.objs.size + 1)) { s with heap := h' }) :
    wpAny (model prog w) A (call (.type "enumerate") [v]) Q E s := by
  have two : (s.heap.push o).objs.size = s.heap.objs.size + 1 := Heap.size_push ..
  have laid : IsEnum ((s.heap.push o).push (enumRec s.heap.objs.size)) (s.heap.objs.size + 1) s.heap.objs.size 0 .none := two ▸ Heap.get?_push_size (s.heap.push o) (o := enumRec s.heap.objs.size) rfl
  have low : ((s.heap.push o).push (enumRec s.heap.objs.size)).get? s.heap.objs.size = some o := Heap.get?_push_of_some _ (Heap.get?_push_size _ B.free)
  have made := fin _ laid low fun c u known => Heap.get?_push_of_some _ (Heap.get?_push_of_some _ known)
  apply callType_new F.called_enumerate (by decide) (F.typeCall_enumerate_1 _) (F.newCall_enumerate_1 _) (fun x => F.args_object_init_2 x _) F.entry_enumerate_new (meets_enum1 B)
  constructor
  · exact there
  · show _ ∧ _
    rw [two]
    exact ⟨⟨_, laid, rfl⟩, made⟩
/-- the tuple at a as it stands at each turn, each item in a new pair with its number -/
def IteT (K : PySem.W.Frag) (a : Addr) : It :=
  ⟨fun i H => ∃ (xs : List V) (x : V), SqT K H a xs ∧ xs[i]? = some x, fun i H v H' => ∃ T x, v = .ref T ∧ H T = none ∧ H' = upd H T (.tup [.int (i : Nat), x]) ∧ ∀ xs, SqT K H a xs → xs[i]? = some x, fun i H => ∃ xs : List V, SqT K H a xs ∧ i = xs.length⟩
/-- enumerate's record at e, over the tuple's iterator at t, before its i-th turn -/
def AtTurn (a e t : Addr) (i : Nat) (h : Heap) : Prop := (∃ last, IsEnum h e t ((i : Nat) : Int) last) ∧ h.IsTupleIter t a i ∧ e ≠ t
theorem drawT (P : Program) (w : World) {B : Around} (quiet : B.handled = none) {a t : Addr} (apart : a ≠ t) (vs : Array Value) : Draws P w B t [t, a] vs.size (fun i v => vs[i]? = some v) (fun i h => h.IsTupleIter t a i ∧ h.IsTuple a vs) := Draws.tuple quiet t a apart vs
section
variable {P : Program} {w : World} {K : PySem.W.Frag} {a e t : Addr}
theorem AtTurn.both {i : Nat} {h : Heap} (st : AtTurn a e t i h) {c : Addr} (hc : c ∈ [e, t]) : ∃ u, h.get? c = some u ∧ ∀ v, u.data ≠ .cell v := by
  obtain ⟨⟨last, rec⟩, ⟨u, hu, _, shape⟩, _⟩ := st
  rcases List.mem_cons.mp hc with same | rest
  · exact same ▸ ⟨_, rec, fun _ z => nomatch z⟩
  · refine List.mem_singleton.mp rest ▸ ⟨u, hu, fun v z => ?_⟩
    rw [shape] at z
    cases z
theorem AtTurn.low {i : Nat} {h : Heap} (st : AtTurn a e t i h) {c : Addr} (hc : c ∈ [e, t]) : c < h.objs.size := by
  obtain ⟨u, hu, _⟩ := st.both hc
  exact Heap.lt_size hu
theorem turn_enumT {elts : List Expr} {kk : Nat} {tpos : Pos} (apart : a ≠ t) (off : a ≠ e) : Turn P w K (.Tuple elts kk tpos) (IteT K a) [e, t] e (AtTurn a e t) where
  mem := List.mem_cons_self
  obj i h st c hc := st.both hc
  keep i h h' := fun ⟨⟨last, rec⟩, pos, ne⟩ same => ⟨⟨last, same e List.mem_cons_self _ rec⟩, pos.at fun u hu => same t (List.mem_cons_of_mem _ List.mem_cons_self) u hu, ne⟩
  self _ _ _ _ _ st := wpAny_pyIter_enum st.1.choose_spec
  item := by
    rintro X rfl rfl rfl calm i pins s σ H E I free st ⟨xs, x, known, at_i⟩
    have lows := fun c (hc : c ∈ [e, t]) => st.low hc
    obtain ⟨⟨last, rec⟩, pos, ne⟩ := st
    obtain ⟨vs, rel, isT, small⟩ := I.tuple known
    obtain ⟨u, hu, ru⟩ := rel.get at_i
    have inside : i < vs.toArray.size := List.size_toArray ▸ (List.getElem?_eq_some_iff.mp hu).1
    have tup : s.heap.IsTuple a vs.toArray := isT
    have outs : e ∉ [t, a] := fun z => (List.mem_cons.mp z).elim ne fun z => off (List.mem_singleton.mp z).symm
    refine wpAny_pyNext_enum_itemD (drawT X.prog X.w (B := X.A.in1) (I.ok.hd calm) apart vs.toArray) rec ⟨pos, tup⟩ inside ne outs fun y h' tk got handed pos' pair _ rest => ?_
    rw [List.getElem?_toArray, hu] at got
    cases got
    refine ⟨_, rfl, wpAny_letOwnedTupleGo_enum (s := { s with heap := h', toks := tk + 1 }) handed fun h'' rec' but => ?_⟩
    have le := lows e List.mem_cons_self
    have pair' := (but.2 _ (Nat.ne_of_gt le)).trans pair
    have lay : ObjOk X.prog X.w (upd H s.heap.objs.size (.tup [.int (i : Nat), x])) h'' s.heap.objs.size (.tup [.int (i : Nat), x]) := ⟨(by decide : 2 ≤ sizeLine), [.int i tk, u], .cons ⟨_, rfl⟩ (.cons ru .nil), _, pair', rfl, _, rfl⟩
    have I1 := I.turnedNew (t' := tk + 1) (ch := [e, t]) (fun c ob out q => (but.2 c fun z => out (z ▸ List.mem_cons_self)).trans (rest c ob (fun z => out (z ▸ List.mem_cons_self)) (fun z => out (z ▸ List.mem_cons_of_mem _ List.mem_cons_self)) q)) free (Nat.le_refl _) lay
    refine ⟨.ref s.heap.objs.size, _, I1, rfl, ⟨_, x, rfl, I.hok.fresh (Nat.le_refl _), rfl, fun zs known' => I.tuple_inj known' known ▸ at_i⟩, ⟨⟨u, ?_⟩, pos'.1.at fun ob q => (but.2 t ne.symm).trans q, ne⟩, fun c hc => ?_⟩
    · have step : (((i + 1 : Nat) : Nat) : Int) = ((i : Nat) : Int) + 1 := Int.natCast_succ i
      exact step ▸ rec'
    · exact (upd_ne (Nat.ne_of_lt (lows c hc))).trans (free c hc).1
  done := by
    rintro X rfl rfl rfl calm i pins s σ H E I free ⟨⟨last, rec⟩, pos, ne⟩ ⟨xs, known, last_i⟩
    obtain ⟨vs, rel, isT, small⟩ := I.tuple known
    have tup : s.heap.IsTuple a vs.toArray := isT
    obtain ⟨g0, g1, g2, g3, g4, g5⟩ := free t (List.mem_cons_of_mem _ List.mem_cons_self)
    have all : i = vs.toArray.size := by rw [List.size_toArray, ← rel.length, last_i]
    subst all
    exact wpAny_pyNext_enum_endD (drawT X.prog X.w (B := X.A.in1) (I.ok.hd calm) apart vs.toArray) rec ⟨pos, tup⟩ fun h' same => ⟨rfl, I.turned (t' := s.toks) (fun c ob out q => same c ob out q) g0 g1 g3 g4 g5⟩
end
def iEnumT (K : PySem.W.Frag) (ta : TA) : TI := fun σ H R => ta σ H fun vs H1 => ∃ a xs, vs = [.ref a] ∧ SqT K H1 a xs ∧ R (IteT K a) H1
theorem pi_enumT {X : Cx} {e : Expr} {ta : TA} {p pos tpos : Pos} {elts : List Expr} {kk : Nat} (hg : Gl X "enumerate") (hm : X.mg "enumerate" = none) (ha : PA X [e] ta) (hs : starEach [e] X.env = [(false, eval e X.env)] := by rfl) :
    PI X (.Tuple elts kk tpos) (.Call (.Name "enumerate" p) [e] [] pos) (iEnumT X.K ta) := by
  constructor
  intro pins s σ H R I want
  have args := thn (ha.run pos pins s σ H _ I want) (Q' := fun us s1 => wpAny (model X.prog X.w) X.A (call (.type "enumerate") us) (fun v s2 => wpAny (model X.prog X.w) X.A (pyIter v) (PIE X pins σ (.Tuple elts kk tpos) R) X.xe s2) X.xe s1) (by
    rintro us s1 ⟨_, H1, I1, rel, a, xs, rfl, known, next⟩
    obtain ⟨u, rfl, ru⟩ := vals1 rel
    cases ru
    obtain ⟨vs, _, isT, _⟩ := I1.tuple known
    have la := isT.lt
    have tup : s1.heap.IsTuple a vs.toArray := isT
    apply enum_begins1 (begins_tuple a vs.toArray) tup
    intro h' rec under same
    apply wpAny_pyIter_enum rec
    have I2 := I1.kept (h' := h') (t' := s1.toks) same
    refine ⟨_, [s1.heap.objs.size + 1, s1.heap.objs.size], AtTurn a _ _, IteT X.K a, H1, rfl, I2, turn_enumT (Nat.ne_of_lt la) (Nat.ne_of_lt (Nat.lt_succ_of_lt la)), ⟨⟨.none, rec⟩, ⟨_, under, rfl, rfl⟩, Nat.succ_ne_self _⟩, fun c hc => ?_, next⟩
    have high : s1.heap.objs.size ≤ c := by
      rcases List.mem_cons.mp hc with z | z
      · exact z ▸ Nat.le_succ _
      · exact Nat.le_of_eq (List.mem_singleton.mp z).symm
    exact I1.fpOk high (I1.hok.fresh high))
  exact Call_ (ld_blt I hg hm boot_enumerate (PyProof.Rows.callWith_type1 args hs rfl))
theorem walk_enumT {K : PySem.W.Frag} {a : Addr} {xs : List V} : Walk (IteT K a) xs.length (fun H => SqT K H a xs) (YPair (fun i => some (.int (i : Nat))) (fun i => xs[i]?)) where
  goes i H hi known := ⟨xs, _, known, List.getElem?_eq_getElem hi⟩
  stops H known := ⟨xs, known, rfl⟩
  yields i H v H' _ known := fun ⟨T, x, e1, e2, e3, f⟩ => ⟨T, _, x, e1, e2, e3, rfl, f xs known⟩

/-! ### dict(d), == of dicts with tuple keys -/
/-- an empty dict's record -/
def bare : Obj := { cls := .type "dict", data := .dict #[] }
section
variable {prog : Program} {w : World} {κ : Type} [DecidableEq κ] {knd : HeapKind prog w κ}
/-- dict(d): what it gives, when its keys' hashes differ -/
theorem call_dictH {A : Around} {E : Value → Shared → Prop} {s : Shared} {src : Addr} {rows : List (κ × Addr × Value)} {Q : Value → Shared → Prop} (room : knd.room A.in1.in1) (own : (src == sysModules) = false) (from' : s.heap.DictOfH knd src rows) (fits : rows.length ≤ sizeLine)
    (keys : ∀ x ∈ rows, knd.is (s.heap.push bare) x.1 x.2.1) (tups : ∀ x ∈ rows, s.TypeIs (.ref x.2.1) "tuple") (apart : (rows.map fun x => knd.hash x.1).Nodup)
    (fin : ∀ h', h'.DictOfH knd s.heap.objs.size rows → Heap.SameBut s.heap.objs.size (s.heap.push bare) h' → Q (.ref s.heap.objs.size) { s with heap := h' }) : wpAny (model prog w) A (call (.type "dict") [.ref src]) Q E s := by
  let two : Shared := { s with heap := s.heap.push bare }
  have empty : two.heap.DictOfH knd s.heap.objs.size [] := Heap.DictOfH.new s.heap
  have once := from'.nodup
  obtain ⟨ob, es, ep, at1, p1, p2, p3, p4, p5⟩ := from'
  have apart' : s.heap.objs.size ≠ src := fun z => Nat.lt_irrefl _ (z ▸ Heap.lt_size at1 : s.heap.objs.size < s.heap.objs.size)
  have there : two.heap.DictOfH knd src rows := ⟨ob, es, ep, Heap.get?_push_of_some _ at1, p1, p2, p3, keys, p5⟩
  have tups' : ∀ x ∈ rows, two.TypeIs (.ref x.2.1) "tuple" := fun x hx => by
    obtain ⟨u, f, g⟩ := tups x hx
    exact ⟨u, Heap.get?_push_of_some _ f, g⟩
  apply callType_codes (Q₁ := fun obj now => obj = .ref s.heap.objs.size ∧ now = two) F.kt_called_dict (F.kt_typeCall_dict_1 _) F.entry_dict_init (kt_code_dict_new _ ⟨rfl, rfl⟩)
  rintro _ _ ⟨rfl, rfl⟩
  refine ⟨empty.typeIs, F.args_dict_init_2 .., ?_⟩
  unfold Builtin.«dict.__init__» Builtin.Dict.selfAndRest
  apply wpAny_bind
  apply wpAny_bind
  apply wpAny_notOrdered_dict empty.typeIs
  apply wpAny_pure (a := (s.heap.objs.size, [Value.ref src]))
  show wpAny _ _ (Builtin.Dict.updateFrom "dict.__init__" _ (.ref src) [] .none) _ _ _
  unfold Builtin.Dict.updateFrom Builtin.Dict.merge Builtin.Dict.readDirectly
  apply wpAny_bind
  apply wpAny_typeOf there.typeIs
  rw [if_neg (by decide)]
  apply wpAny_bind
  apply wpAny_bind
  apply wpAny_bind
  apply wpAny_isInstance there.typeIs isSubtype_dict_dict
  rw [if_neg (by decide)]
  apply wpAny_bind
  apply wpAny_specialOf there.typeIs F.slot_dict_iter.lookup
  apply wpAny_pure
  rw [if_pos (by simp)]
  apply wpAny_bind
  apply wpAny_pure
  apply wpAny_mergeDict_heap (kvs := []) (more := rows) (hsz := by simpa using fits) room apart' own empty there (Or.inr ⟨tups', apart⟩)
  intro h' done _ but
  show wpAny _ _ (Builtin.Dict.addKeywords _ [] >>= _) _ _ _
  apply wpAny_bind
  apply wpAny_pure
  apply wpAny_pure
  exact ⟨rfl, fin h' (storedAllH_nil_of_nodup rows once ▸ done) but⟩
/-- the j-th row holds k: no other one does -/
theorem row_of {rows : List (κ × Addr × Value)} (once : (rows.map (·.1)).Nodup) {i j : Nat} {k : κ} {p q : Addr × Value} (hi : rows[i]? = some (k, p)) (hj : rows[j]? = some (k, q)) : i = j := by
  have f : (rows.map (·.1))[i]? = some k := by rw [List.getElem?_map, hi, Option.map_some]
  have g : (rows.map (·.1))[j]? = some k := by rw [List.getElem?_map, hj, Option.map_some]
  exact nd_ix once f g
/-- two dicts of as many rows: each row of the one is found in the other, with an equal value -/
theorem samePairsH {A : Around} {E : Value → Shared → Prop} {s : Shared} {nm : String} {a b : Addr} {xa xb : List (κ × Addr × Value)} {Q : Bool → Shared → Prop} (room : knd.room A) (oa : (a == sysModules) = false) (ob : (b == sysModules) = false)
    (da : s.heap.DictOfH knd a xa) (db : s.heap.DictOfH knd b xb) (many : xa.length = xb.length)
    (hits : ∀ x ∈ xa, ∃ (j : Nat) (p : Addr × Value), xb[j]? = some (x.1, p) ∧ SeqAt.EqAt A s x.2.2 p.2 true) (fin : Q true s) : wpAny (model prog w) A (Builtin.Dict.samePairs nm a b) Q E s := by
  obtain ⟨ra, es, ep, at_a, _, dat_a, ent_a, is_a, _⟩ := da
  obtain ⟨rb, fs, fp, at_b, _, dat_b, ent_b, is_b, once⟩ := db
  have za := size_of_entries ent_a
  have same : es.size = fs.size := by rw [za, size_of_entries ent_b, many]
  have f1 : ¬ (a == sysModules) = true := by simp [oa]
  have f2 : ¬ (b == sysModules) = true := by simp [ob]
  unfold Builtin.Dict.samePairs
  unfold Builtin.Dict.showsAll
  rw [if_neg f1, if_neg f2]
  apply wpAny_bind
  apply wpAny_pure
  apply wpAny_bind
  apply wpAny_pure
  apply wpAny_bind
  apply wpAny_dictEntries at_a dat_a
  dsimp only
  apply wpAny_bind
  apply wpAny_dictEntries at_b dat_b
  rw [if_neg (by simp [same])]
  apply wpAny_bind
  apply wpAny_dictEpoch at_a dat_a
  apply wpAny_bind
  simp only [Std.Legacy.Range.forIn_eq_forIn_range', Std.Legacy.Range.size, Nat.sub_zero, Nat.add_sub_cancel, Nat.div_one]
  apply wpAny_forIn_list _ (fun left q now => now = s ∧ q = (none, ()) ∧ ∀ i ∈ left, i < es.size)
  case h => exact ⟨rfl, rfl, fun i hi => by simpa using List.mem_range'_1.mp hi⟩
  case fin =>
    rintro _ _ ⟨rfl, rfl, _⟩
    exact wpAny_pure fin
  case turn =>
    rintro i left _ _ ⟨rfl, rfl, low⟩
    have here : i < xa.length := za ▸ low i List.mem_cons_self
    have row := List.getElem?_eq_getElem here
    generalize xa[i] = x at row
    obtain ⟨k, c, v⟩ := x
    have mem := List.mem_of_getElem? row
    obtain ⟨j, p, found, alike⟩ := hits _ mem
    apply wpAny_bind
    apply wpAny_dictEntries at_a dat_a
    rw [entry_at ent_a i, row]
    show wpAny _ _ (holding [.ref c, v] _ >>= _) _ _ _
    apply wpAny_bind
    apply wpAny_holding
    apply wpAny_bind
    apply wpAny_dictFind_heap room (is_a _ mem) at_b dat_b ent_b is_b once (fun no => absurd found (no j p))
    intro j' p' found'
    cases row_of once found' found
    cases (Prod.mk.inj (Option.some.inj (found'.symm.trans found))).2
    apply wpAny_bind
    apply wpAny_dictEntries at_b dat_b
    rw [entry_at ent_b j, found]
    show wpAny _ _ (holding [_] _) _ _ _
    apply wpAny_holding
    apply alike
    rw [if_neg (by decide)]
    apply wpAny_bind
    apply wpAny_dictEpoch at_a dat_a
    rw [if_neg (by simp)]
    exact wpAny_pure ⟨rfl, rfl, fun m hm => low m (List.mem_cons_of_mem _ hm)⟩
/-- d == e: as many rows, each found -/
theorem eq_dictsH {A : Around} {E : Value → Shared → Prop} {s : Shared} {a b : Addr} {xa xb : List (κ × Addr × Value)} {Q : Value → Shared → Prop} (room : knd.room A.in1) (oa : (a == sysModules) = false) (ob : (b == sysModules) = false)
    (da : s.heap.DictOfH knd a xa) (db : s.heap.DictOfH knd b xb) (units : A.units < cLine) (many : xa.length = xb.length)
    (hits : ∀ x ∈ xa, ∃ (j : Nat) (p : Addr × Value), xb[j]? = some (x.1, p) ∧ SeqAt.EqAt A.in1 s x.2.2 p.2 true) (fin : Q (.bool true) s) : wpAny (model prog w) A (compareOp .Eq (.ref a) (.ref b)) Q E s := by
  have slot := PySem.F.slot_dict_eq
  apply wpAny_richCompare_same_room (op := .Eq) da.typeIs db.typeIs slot _ units
  apply wpAny_call_entry slot da.typeIs PySem.F.entry_dict_eq _ (PySem.F.args_dict_eq_2 ..)
  show wpAny _ _ (Builtin.Dict.dictSlotArgs _ _ >>= _) _ _ _
  rw [Builtin.Dict.dictSlotArgs]
  apply wpAny_bind
  apply wpAny_bind
  apply wpAny_notOrdered_dict da.typeIs
  apply wpAny_pure (a := (Value.ref a, Value.ref b))
  apply wpAny_bind
  apply wpAny_isInstance (T := "dict") db.typeIs PySem.F.sub_dict_dict
  rw [if_neg (by decide)]
  apply wpAny_bind
  apply wpAny_pure
  apply wpAny_bind
  apply wpAny_pure
  apply wpAny_bind
  apply samePairsH room oa ob da db many hits
  exact wpAny_pure ⟨_, rfl, fun z => (nomatch z), fin⟩
end
section
variable {X : Cx}
/-- what a row of the model's dict says -/
theorem kt_rows {H : Hp} {l : List (List Key × V)} {m : List (List Key × Addr × Value)} (g : KT H l m) : l.map (·.1) = m.map (·.1) ∧ ∀ x ∈ m, H x.2.1 = some (.tup (x.1.map kV)) ∧ ∃ p ∈ l, p.1 = x.1 ∧ RelV p.2 x.2.2 := by
  induction g with
  | nil => exact ⟨rfl, fun _ z => nomatch z⟩
  | @cons p q ps qs one _ ih =>
    obtain ⟨same, tup, rel⟩ := one
    refine ⟨by rw [List.map_cons, List.map_cons, ih.1, same], fun x hx => ?_⟩
    cases hx with
    | head => exact ⟨same ▸ tup, p, List.mem_cons_self, same, rel⟩
    | tail _ hx =>
      obtain ⟨f, r, hr, g1, g2⟩ := ih.2 x hx
      exact ⟨f, r, List.mem_cons_of_mem _ hr, g1, g2⟩
def rDictT (P : Program) (w : World) : List V → Hp → VK → Prop := fun xs H Q => ∃ (a : Addr) (kvs : List (List Key × V)), xs = [.ref a] ∧ H a = some (.dT kvs) ∧ (kvs.map fun p => tupleKeyHash (mixKind P w) p.1).Nodup ∧ ∀ p, H p = none → Q (.ref p) (upd H p (.dT kvs))
theorem call_dictT (hu : X.A.units + 2 < cLine) : CallR X (.type "dict") (rDictT X.prog X.w) := by
  rintro pins s σ H _ us Q I rel ⟨a, kvs, rfl, at_a, apart, want⟩
  obtain ⟨u, rfl, ru⟩ := vals1 rel
  cases ru
  obtain ⟨fits, own, rows, kt, dict⟩ := dt_of I.hok at_a
  obtain ⟨firsts, each⟩ := kt_rows kt
  have many : kvs.length = rows.length := Paired.length kt
  have I2 : Inv X pins σ H { s with heap := s.heap.push bare } := I.kept (t' := s.toks) fun _ _ => Heap.get?_push_of_some _
  have free := I.hok.fresh (Nat.le_refl s.heap.objs.size)
  have hashes : (rows.map fun x => (tupleKind (mixKind X.prog X.w)).hash x.1).Nodup := by
    have e := congrArg (List.map (tupleKeyHash (mixKind X.prog X.w))) firsts
    simp only [List.map_map] at e
    exact (e ▸ apart : (rows.map (tupleKeyHash (mixKind X.prog X.w) ∘ fun x => x.1)).Nodup)
  apply call_dictH (knd := tupleKind (mixKind X.prog X.w)) (show X.A.in1.in1.units < cLine from hu) own dict (many ▸ fits) (fun x hx => key_of I2.hok (each x hx).1) (fun x hx => ?_) hashes
  · intro h' made but
    obtain ⟨ob, es, ep, at1, f1, f2, f3, _, f5⟩ := made
    have lay : ObjOk X.prog X.w (upd H s.heap.objs.size (.dT kvs)) h' s.heap.objs.size (.dT kvs) :=
      ⟨fits, beq_eq_false_iff_ne.mpr (Nat.ne_of_gt I.big), rows, KT.keeps kt fun b zs e => (upd_ne (ne_of_none e free)).trans e, ob, es, ep, at1, f1, f2, f3, f5⟩
    exact ⟨.ref s.heap.objs.size, _, I.laid (t' := s.toks) (fun b u e => (but.2 b (Nat.ne_of_lt (Heap.lt_size e))).trans (Heap.get?_push_of_some _ e)) (Nat.le_refl _) lay, rfl, want _ free⟩
  · have key : IsTupleKey (mixKind X.prog X.w) s.heap x.1 x.2.1 := key_of I.hok (each x hx).1
    obtain ⟨ob, _, _, f1, f2, _⟩ := key
    exact ⟨ob, f1, f2⟩
def rEqT : R2 := fun x y H Q => ∃ a b ks ls, x = .ref a ∧ y = .ref b ∧ H a = some (.dT ks) ∧ H b = some (.dT ls) ∧ ks.length = ls.length ∧ (∀ p ∈ ks, valV ls p.1 = some p.2 ∧ flatB p.2 = true) ∧ Q (.bl true) H
theorem op_eq_dictT (hu : X.A.units + 1 < cLine) : OpR X (compareOp .Eq) rEqT := by
  rintro pins s σ H _ _ v u Q I rx ry ⟨a, b, ks, ls, rfl, rfl, at_a, at_b, many, vals, want⟩
  cases rx
  cases ry
  obtain ⟨_, own_a, ra, ka, da⟩ := dt_of I.hok at_a
  obtain ⟨_, own_b, rb, kb, db⟩ := dt_of I.hok at_b
  have fin : EP X pins σ Q (.bool true) s := ⟨.bl true, H, I, rfl, want⟩
  have many' : ra.length = rb.length := (Paired.length ka).symm.trans (many.trans (Paired.length kb))
  apply eq_dictsH (knd := tupleKind (mixKind X.prog X.w)) (show X.A.in1.units < cLine from hu) own_a own_b da db (Nat.lt_of_succ_lt hu) many' _ fin
  intro x hx
  obtain ⟨_, p, hp, key, rel⟩ := (kt_rows ka).2 x hx
  obtain ⟨val, flat⟩ := vals p hp
  have opt := KT.val kb p.1
  rw [val] at opt
  obtain ⟨y, hy, ry⟩ := opt.some_of
  obtain ⟨⟨c, _⟩, atk, rfl⟩ := Option.map_eq_some_iff.mp hy
  unfold atKey at atk
  obtain ⟨⟨kk, _⟩, hf, rfl⟩ := Option.map_eq_some_iff.mp atk
  obtain ⟨j, hj⟩ := List.getElem?_of_mem (List.mem_of_find?_eq_some hf)
  have is0 := List.find?_some hf
  have is : kk = p.1 := of_decide_eq_true is0
  exact ⟨j, _, by rw [hj, is, key], eqAt_same rel ry flat⟩
end

/-! ### the hashes of the law's points -/
def hash3 (x y z : Int) : Int := reduceHash (Builtin.Tuple.tupleHashOf [hashInt x, hashInt y, hashInt z])
theorem hash_key3 (P : Program) (w : World) (x y z : Int) : tupleKeyHash (mixKind P w) [.inl x, .inl y, .inl z] = hash3 x y z := rfl
def six : List Int := [-1, 0, 1, 2, 3, 4]
def hashes216 : List Int := six.flatMap fun x => six.flatMap fun y => six.map fun z => hash3 x y z
def distinct : List Int → Bool
  | [] => true
  | a :: r => r.all (fun b => !(a == b)) && distinct r
theorem hashes_distinct : distinct hashes216 = true := by decide +kernel
theorem distinct_nodup : ∀ {l : List Int}, distinct l = true → l.Nodup
  | [], _ => List.nodup_nil
  | a :: r, h => by
    have h : (r.all (fun b => !(a == b)) && distinct r) = true := h
    rw [Bool.and_eq_true, List.all_eq_true] at h
    refine List.nodup_cons.mpr ⟨fun hm => ?_, distinct_nodup h.2⟩
    have := h.1 a hm
    simp at this
end K4
/-! B2_Data: values that are data of tuples and ints; rows, layers, solids, boxes as such data. -/
namespace K4
open PySem PySem.Spec PyProof.Rows L2

mutual
inductive Tp (K : PySem.W.Frag) (H : Hp) : V → PyData → Prop
  | int (i : Int) : Tp K H (.int i) (.int i)
  | tup {a : Addr} {xs : List V} {ds : List PyData} : SqT K H a xs → TpAll K H xs ds → Tp K H (.ref a) (.tuple ds)
inductive TpAll (K : PySem.W.Frag) (H : Hp) : List V → List PyData → Prop
  | nil : TpAll K H [] []
  | cons {v : V} {vs : List V} {d : PyData} {ds : List PyData} : Tp K H v d → TpAll K H vs ds → TpAll K H (v :: vs) (d :: ds)
end
/-- the tuples stay -/
def TS (K : PySem.W.Frag) (H H' : Hp) : Prop := ∀ a xs, SqT K H a xs → SqT K H' a xs
section
variable {K : PySem.W.Frag} {H H' : Hp}
mutual
theorem Tp.mono (t : TS K H H') : ∀ {v : V} {d : PyData}, Tp K H v d → Tp K H' v d
  | _, _, .int i => .int i
  | _, _, .tup s al => .tup (t _ _ s) (TpAll.mono t al)
theorem TpAll.mono (t : TS K H H') : ∀ {vs : List V} {ds : List PyData}, TpAll K H vs ds → TpAll K H' vs ds
  | _, _, .nil => .nil
  | _, _, .cons p q => .cons (Tp.mono t p) (TpAll.mono t q)
end
mutual
theorem Tp.dp : ∀ {v : V} {d : PyData}, Tp K H v d → Dp K H v d
  | _, _, .int i => .int i
  | _, _, .tup s al => .tup s (TpAll.dp al)
theorem TpAll.dp : ∀ {vs : List V} {ds : List PyData}, TpAll K H vs ds → DpAll K H vs ds
  | _, _, .nil => .nil
  | _, _, .cons p q => .cons (Tp.dp p) (TpAll.dp q)
end
theorem Tp.inv {v : V} {ds : List PyData} (h : Tp K H v (.tuple ds)) : ∃ a xs, v = .ref a ∧ SqT K H a xs ∧ TpAll K H xs ds := by
  cases h with
  | tup s al => exact ⟨_, _, rfl, s, al⟩
theorem Tp.num {v : V} {i : Int} (h : Tp K H v (.int i)) : v = .int i := by
  cases h with
  | int => rfl
theorem TpAll.len : ∀ {vs : List V} {ds : List PyData}, TpAll K H vs ds → vs.length = ds.length
  | _, _, .nil => rfl
  | _, _, .cons _ q => by rw [List.length_cons, List.length_cons, TpAll.len q]
theorem TpAll.get : ∀ {vs : List V} {ds : List PyData} {i : Nat} {d : PyData}, TpAll K H vs ds → ds[i]? = some d → ∃ v, vs[i]? = some v ∧ Tp K H v d
  | _, _, _, _, .nil, h => by simp at h
  | _, _, 0, _, .cons p _, h => by
    cases (Option.some.inj h)
    exact ⟨_, rfl, p⟩
  | _, _, i + 1, _, .cons _ q, h => TpAll.get (i := i) q h
theorem TpAll.back : ∀ {vs : List V} {ds : List PyData} {i : Nat} {v : V}, TpAll K H vs ds → vs[i]? = some v → ∃ d, ds[i]? = some d ∧ Tp K H v d
  | _, _, _, _, .nil, h => by simp at h
  | _, _, 0, _, .cons p _, h => by
    cases (Option.some.inj h)
    exact ⟨_, rfl, p⟩
  | _, _, i + 1, _, .cons _ q, h => TpAll.back (i := i) q h
theorem TpAll.app : ∀ {vs ws : List V} {ds es : List PyData}, TpAll K H vs ds → TpAll K H ws es → TpAll K H (vs ++ ws) (ds ++ es)
  | _, _, _, _, .nil, h => h
  | _, _, _, _, .cons p q, h => .cons p (TpAll.app q h)
theorem TpAll.one {v : V} {d : PyData} (h : Tp K H v d) : TpAll K H [v] [d] := .cons h .nil
theorem TpAll.inv1 {vs : List V} {d : PyData} (h : TpAll K H vs [d]) : ∃ v, vs = [v] ∧ Tp K H v d := by
  cases h with
  | cons p q =>
    cases q
    exact ⟨_, rfl, p⟩
theorem TpAll.inv2 {vs : List V} {d e : PyData} (h : TpAll K H vs [d, e]) : ∃ v w, vs = [v, w] ∧ Tp K H v d ∧ Tp K H w e := by
  cases h with
  | cons p q =>
    obtain ⟨w, rfl, r⟩ := q.inv1
    exact ⟨_, _, rfl, p, r⟩
theorem TpAll.inv3 {vs : List V} {d e f : PyData} (h : TpAll K H vs [d, e, f]) : ∃ v w x, vs = [v, w, x] ∧ Tp K H v d ∧ Tp K H w e ∧ Tp K H x f := by
  cases h with
  | cons p q =>
    obtain ⟨w, x, rfl, r⟩ := q.inv2
    exact ⟨_, _, _, rfl, p, r⟩
theorem TpAll.drop : ∀ {vs : List V} {ds : List PyData} (n : Nat), TpAll K H vs ds → TpAll K H (vs.drop n) (ds.drop n)
  | _, _, 0, h => h
  | _, _, n + 1, .nil => .nil
  | _, _, n + 1, .cons _ q => TpAll.drop n q
theorem TpAll.take : ∀ {vs : List V} {ds : List PyData} (n : Nat), TpAll K H vs ds → TpAll K H (vs.take n) (ds.take n)
  | _, _, 0, _ => .nil
  | _, _, n + 1, .nil => .nil
  | _, _, n + 1, .cons p q => .cons p (TpAll.take n q)
theorem TpAll.dropLast {vs : List V} {ds : List PyData} (h : TpAll K H vs ds) : TpAll K H vs.dropLast ds.dropLast := by
  rw [List.dropLast_eq_take, List.dropLast_eq_take, h.len]
  exact h.take _
theorem TpAll.two : ∀ {vs : List V} {ds : List PyData}, TpAll K H vs ds → TpAll K H (everyTwo vs) (everyTwo ds)
  | _, _, .nil => .nil
  | _, _, .cons r .nil => .cons r .nil
  | _, _, .cons r (.cons _ t) => .cons r (TpAll.two t)

theorem TS.refl : TS K H H := fun _ _ h => h
theorem TS.trans {H1 H2 : Hp} (a : TS K H H1) (b : TS K H1 H2) : TS K H H2 := fun c xs h => b c xs (a c xs h)
theorem same_seqT {a : Addr} {xs : List V} (e : Same H H') (h : SqT K H a xs) : SqT K H' a xs := by
  rcases h with (h | ⟨o, h⟩) | h
  · exact .inl (.inl (e _ _ h))
  · exact .inl (.inr ⟨o, e _ _ h⟩)
  · exact .inr h
theorem TS.same (e : Same H H') : TS K H H' := fun _ _ h => same_seqT e h
theorem same_new {p : Addr} {o : HO} (h : H p = none) : Same H (upd H p o) := fun b x e => by
  rw [upd_ne (ne_of_none e h)]
  exact e
theorem TS.new {p : Addr} {o : HO} (h : H p = none) : TS K H (upd H p o) := TS.same (same_new h)
/-- what is neither a tuple nor known is changed -/
theorem TS.upd {p : Addr} {o : HO} (h : ∀ xs, H p ≠ some (.tup xs)) (h' : ∀ ob xs, H p ≠ some (.frz ob (.tup xs))) : TS K H (upd H p o) := fun a xs q => by
  rcases q with (q | ⟨ob, q⟩) | q
  · exact .inl (.inl (by rw [upd_ne (show a ≠ p from fun e => h xs (by rw [← e]; exact q))]; exact q))
  · exact .inl (.inr ⟨ob, by rw [upd_ne (show a ≠ p from fun e => h' ob xs (by rw [← e]; exact q))]; exact q⟩)
  · exact .inr q
theorem TS.lst {p : Addr} {o : HO} {ys : List V} (h : H p = some (.lst ys)) : TS K H (L2.upd H p o) := TS.upd (fun xs e => by rw [h] at e; cases e) (fun ob xs e => by rw [h] at e; cases e)
theorem TS.dT {p : Addr} {o : HO} {kvs : List (List Key × V)} (h : H p = some (.dT kvs)) : TS K H (L2.upd H p o) := TS.upd (fun xs e => by rw [h] at e; cases e) (fun ob xs e => by rw [h] at e; cases e)
theorem TS.dK {p : Addr} {o : HO} {kvs : List (Key × V)} (h : H p = some (.dK kvs)) : TS K H (L2.upd H p o) := TS.upd (fun xs e => by rw [h] at e; cases e) (fun ob xs e => by rw [h] at e; cases e)
theorem seqT_new {p : Addr} {xs : List V} : SqT K (L2.upd H p (.tup xs)) p xs := .inl (.inl upd_same)
/-- a new tuple of data -/
theorem Tp.new {p : Addr} {xs : List V} {ds : List PyData} (hp : H p = none) (h : TpAll K H xs ds) : Tp K (L2.upd H p (.tup xs)) (.ref p) (.tuple ds) := .tup seqT_new (h.mono (TS.new hp))
end

/-! ### kinds of insides -/
structure Kd (A : Type) [DecidableEq A] where
  D : A → PyData
  e : A
  n : Nat
  hn : n ≤ 20
  De : D e = .tuple []
  eqv : ∀ a b, PyData.eqv (D a) (D b) = decide (a = b)
  lay : ∀ a, (D a).canLay0 = true
  dep : ∀ a, (D a).depth ≤ n
theorem eqvAll_map {A : Type} [DecidableEq A] {g : A → PyData} (h : ∀ a b, PyData.eqv (g a) (g b) = decide (a = b)) : ∀ l m : List A, PyData.eqvAll (l.map g) (m.map g) = decide (l = m)
  | [], [] => by simp [PyData.eqvAll]
  | [], _ :: _ => by simp [PyData.eqvAll]
  | _ :: _, [] => by simp [PyData.eqvAll]
  | a :: l, b :: m => by
    rw [List.map_cons, List.map_cons, PyData.eqvAll, h, eqvAll_map h l m]
    by_cases h1 : a = b
    · by_cases h2 : l = m
      · simp [h1, h2]
      · simp [h1, h2]
    · simp [h1]
theorem layAll_map {A : Type} {g : A → PyData} (h : ∀ a, (g a).canLay0 = true) : ∀ l : List A, PyData.canLayAll0 (l.map g) = true
  | [] => by simp [PyData.canLayAll0]
  | a :: l => by
    rw [List.map_cons, PyData.canLayAll0, h, layAll_map h l]
    rfl
theorem depAll_map {A : Type} {g : A → PyData} {n : Nat} (h : ∀ a, (g a).depth ≤ n) : ∀ l : List A, PyData.depthAll (l.map g) ≤ n
  | [] => by simp [PyData.depthAll]
  | a :: l => by
    have h1 := h a
    have h2 := depAll_map h l
    rw [List.map_cons, PyData.depthAll]
    omega
def segD (p : Int × Int) : PyData := .tuple [.int p.1, .int p.2]
def strD {A : Type} (D : A → PyData) (p : Int × Int × A) : PyData := .tuple [.int p.1, .int p.2.1, D p.2.2]
def rowD (r : Row) : PyData := .tuple (r.map segD)
def sxD {A : Type} (D : A → PyData) (s : Sx A) : PyData := .tuple (s.map (strD D))
def layD (l : Layer) : PyData := sxD rowD l
def solD (s : Sol) : PyData := sxD layD s
theorem segD_eqv (a b : Int × Int) : PyData.eqv (segD a) (segD b) = decide (a = b) := by
  obtain ⟨a1, a2⟩ := a
  obtain ⟨b1, b2⟩ := b
  simp only [segD, PyData.eqv, PyData.eqvAll]
  by_cases h1 : a1 = b1
  · by_cases h2 : a2 = b2
    · simp [h1, h2]
    · simp [h1, h2]
  · simp [h1]
theorem strD_eqv {A : Type} [DecidableEq A] {D : A → PyData} (h : ∀ a b, PyData.eqv (D a) (D b) = decide (a = b)) (a b : Int × Int × A) : PyData.eqv (strD D a) (strD D b) = decide (a = b) := by
  obtain ⟨a1, a2, a3⟩ := a
  obtain ⟨b1, b2, b3⟩ := b
  simp only [strD, PyData.eqv, PyData.eqvAll, h]
  by_cases h1 : a1 = b1
  · by_cases h2 : a2 = b2
    · by_cases h3 : a3 = b3
      · simp [h1, h2, h3]
      · simp [h1, h2, h3]
    · simp [h1, h2]
  · simp [h1]
theorem segD_lay (a : Int × Int) : (segD a).canLay0 = true := by simp [segD, PyData.canLay0, PyData.canLayAll0]
theorem strD_lay {A : Type} {D : A → PyData} (h : ∀ a, (D a).canLay0 = true) (a : Int × Int × A) : (strD D a).canLay0 = true := by simp [strD, PyData.canLay0, PyData.canLayAll0, h]
theorem segD_dep (a : Int × Int) : (segD a).depth ≤ 1 := by simp [segD, PyData.depth, PyData.depthAll]
theorem strD_dep {A : Type} {D : A → PyData} {n : Nat} (h : ∀ a, (D a).depth ≤ n) (a : Int × Int × A) : (strD D a).depth ≤ n + 1 := by
  have := h a.2.2
  simp only [strD, PyData.depth, PyData.depthAll]
  omega
def rowK : Kd Row := ⟨rowD, [], 2, by decide, rfl, fun a b => by
    show PyData.eqv (.tuple _) (.tuple _) = _
    rw [PyData.eqv]
    exact eqvAll_map segD_eqv a b, fun a => by
    show PyData.canLay0 (.tuple _) = true
    rw [PyData.canLay0]
    exact layAll_map segD_lay a, fun a => by
    show PyData.depth (.tuple _) ≤ _
    rw [PyData.depth]
    exact Nat.succ_le_succ (depAll_map segD_dep a)⟩
def sxK {A : Type} [DecidableEq A] (k : Kd A) (h : k.n + 2 ≤ 20) : Kd (Sx A) := ⟨sxD k.D, [], k.n + 2, h, rfl, fun a b => by
    show PyData.eqv (.tuple _) (.tuple _) = _
    rw [PyData.eqv]
    exact eqvAll_map (strD_eqv k.eqv) a b, fun a => by
    show PyData.canLay0 (.tuple _) = true
    rw [PyData.canLay0]
    exact layAll_map (strD_lay k.lay) a, fun a => by
    show PyData.depth (.tuple _) ≤ _
    rw [PyData.depth]
    exact Nat.succ_le_succ (depAll_map (strD_dep k.dep) a)⟩
instance decLayer : DecidableEq Layer := inferInstanceAs (DecidableEq (List (Int × Int × Row)))
instance decSol : DecidableEq Sol := inferInstanceAs (DecidableEq (List (Int × Int × Layer)))
def layK : Kd Layer := sxK rowK (by decide)
def solK : Kd Sol := sxK layK (by decide)
theorem Kd.shaped {A : Type} [DecidableEq A] (k : Kd A) (a : A) : SeqAt.shaped (k.D a) = true := by
  have h1 := k.lay a
  have h2 := k.dep a
  have h3 := k.hn
  show ((k.D a).canLay0 && decide ((k.D a).depth ≤ 64)) = true
  rw [h1, decide_eq_true (show (k.D a).depth ≤ 64 by omega)]
  rfl
theorem shaped_nil : SeqAt.shaped (.tuple []) = true := by decide
theorem shaped_lnil : SeqAt.shaped (.list []) = true := by decide
theorem shaped_list {A : Type} {g : A → PyData} {n : Nat} (h1 : ∀ a, (g a).canLay0 = true) (h2 : ∀ a, (g a).depth ≤ n) (hn : n ≤ 60) (l : List A) : SeqAt.shaped (.list (l.map g)) = true := by
  have h3 := depAll_map h2 l
  show (PyData.canLay0 (.list (l.map g)) && decide (PyData.depth (.list (l.map g)) ≤ 64)) = true
  rw [PyData.canLay0, layAll_map h1 l, PyData.depth, decide_eq_true (show PyData.depthAll (l.map g) + 1 ≤ 64 by omega)]
  rfl
theorem eqv_lnil {A : Type} {g : A → PyData} (l : List A) : PyData.eqv (.list (l.map g)) (.list []) = decide (l = []) := by
  cases l with
  | nil => simp [PyData.eqv, PyData.eqvAll]
  | cons a r => simp [PyData.eqv, PyData.eqvAll]
theorem eqv_tnil {A : Type} {g : A → PyData} (l : List A) : PyData.eqv (.tuple (l.map g)) (.tuple []) = decide (l = []) := by
  cases l with
  | nil => simp [PyData.eqv, PyData.eqvAll]
  | cons a r => simp [PyData.eqv, PyData.eqvAll]

/-! ### points, boxes -/
def ptD (q : P3) : PyData := .tuple [.int q.1, .int q.2.1, .int q.2.2]
def boxD (b : Box) : PyData := .tuple [ptD b.1, ptD b.2]
section
variable {K : PySem.W.Frag} {H : Hp}
theorem Tp.pt {v : V} {q : P3} (h : Tp K H v (ptD q)) : ∃ a, v = .ref a ∧ SqT K H a [.int q.1, .int q.2.1, .int q.2.2] := by
  obtain ⟨a, xs, rfl, s, al⟩ := Tp.inv h
  obtain ⟨x, y, z, rfl, h1, h2, h3⟩ := al.inv3
  rw [h1.num, h2.num, h3.num] at s
  exact ⟨a, rfl, s⟩
theorem Tp.box {v : V} {b : Box} (h : Tp K H v (boxD b)) : ∃ a l m, v = .ref a ∧ SqT K H a [.ref l, .ref m] ∧ SqT K H l [.int b.1.1, .int b.1.2.1, .int b.1.2.2] ∧ SqT K H m [.int b.2.1, .int b.2.2.1, .int b.2.2.2] := by
  obtain ⟨a, xs, rfl, s, al⟩ := Tp.inv h
  obtain ⟨x, y, rfl, h1, h2⟩ := al.inv2
  obtain ⟨l, rfl, s1⟩ := Tp.pt h1
  obtain ⟨m, rfl, s2⟩ := Tp.pt h2
  exact ⟨a, l, m, rfl, s, s1, s2⟩
theorem Tp.ofPt {a : Addr} {q : P3} (h : SqT K H a [.int q.1, .int q.2.1, .int q.2.2]) : Tp K H (.ref a) (ptD q) := .tup h (.cons (.int _) (.cons (.int _) (.cons (.int _) .nil)))
theorem Tp.ofBox {a l m : Addr} {b : Box} (h : SqT K H a [.ref l, .ref m]) (h1 : SqT K H l [.int b.1.1, .int b.1.2.1, .int b.1.2.2]) (h2 : SqT K H m [.int b.2.1, .int b.2.2.1, .int b.2.2.2]) : Tp K H (.ref a) (boxD b) :=
  .tup h (.cons (Tp.ofPt h1) (.cons (Tp.ofPt h2) .nil))
/-- a stretch -/
theorem Tp.str {A : Type} {D : A → PyData} {v : V} {p : Int × Int × A} (h : Tp K H v (strD D p)) : ∃ a z, v = .ref a ∧ SqT K H a [.int p.1, .int p.2.1, z] ∧ Tp K H z (D p.2.2) := by
  obtain ⟨a, xs, rfl, s, al⟩ := Tp.inv h
  obtain ⟨x, y, z, rfl, h1, h2, h3⟩ := al.inv3
  rw [h1.num, h2.num] at s
  exact ⟨a, z, rfl, s, h3⟩
theorem Tp.seg {v : V} {p : Int × Int} (h : Tp K H v (segD p)) : ∃ a, v = .ref a ∧ SqT K H a [.int p.1, .int p.2] := by
  obtain ⟨a, xs, rfl, s, al⟩ := Tp.inv h
  obtain ⟨x, y, rfl, h1, h2⟩ := al.inv2
  rw [h1.num, h2.num] at s
  exact ⟨a, rfl, s⟩
/-- the i-th of a list of data -/
theorem TpAll.at' {A : Type} {g : A → PyData} {vs : List V} {l : List A} {i : Nat} {x : A} (h : TpAll K H vs (l.map g)) (hx : l[i]? = some x) : ∃ v, vs[i]? = some v ∧ Tp K H v (g x) :=
  h.get (by rw [List.getElem?_map, hx]; rfl)
theorem TpAll.of' {A : Type} {g : A → PyData} {vs : List V} {l : List A} {i : Nat} {v : V} (h : TpAll K H vs (l.map g)) (hv : vs[i]? = some v) : ∃ x, l[i]? = some x ∧ Tp K H v (g x) := by
  obtain ⟨d, hd, t⟩ := h.back hv
  rw [List.getElem?_map] at hd
  obtain ⟨x, hx, e⟩ := Option.map_eq_some_iff.mp hd
  subst e
  exact ⟨x, hx, t⟩
theorem TpAll.len' {A : Type} {g : A → PyData} {vs : List V} {l : List A} (h : TpAll K H vs (l.map g)) : vs.length = l.length := by
  rw [h.len, List.length_map]
end
end K4
/-! C0_Text: the program's statements by place, the names' scopes, what the built-in names hold. -/
namespace K4
open PySem PySem.Spec PyProof.Rows L2

def top (i : Nat) : Stmt := PySem.Challenge.pw_shopwhole_k04_whole_standings.main.body.getD i (.Pass ⟨0, 0, 0, 0⟩)
abbrev sIsNumber : Stmt := top 2
abbrev sIsRow : Stmt := top 3
abbrev sAreStr : Stmt := top 4
abbrev sIsLayer : Stmt := top 5
abbrev sIsSolid : Stmt := top 6
abbrev sIsKept : Stmt := top 7
abbrev sEndsOf : Stmt := top 8
abbrev sRows : Stmt := top 9
abbrev sStr : Stmt := top 10
abbrev sLayers : Stmt := top 11
abbrev sUnion : Stmt := top 12
abbrev sMeet : Stmt := top 13
abbrev sUnionOf : Stmt := top 14
abbrev sBox : Stmt := top 15
abbrev sDoMeet : Stmt := top 16
abbrev sBoxesOf : Stmt := top 17
abbrev sOfBoxes : Stmt := top 18
abbrev sVolume : Stmt := top 19
abbrev sMoved : Stmt := top 20
abbrev sSwept : Stmt := top 21
abbrev sBarred : Stmt := top 22
abbrev sNeigh : Stmt := top 23
abbrev sCellAt : Stmt := top 25
abbrev sDraw : Stmt := top 26
abbrev sNumber : Stmt := top 27
abbrev sNext : Stmt := top 28
abbrev sLBoxes : Stmt := top 30
abbrev sLCells : Stmt := top 31
abbrev sLSolid : Stmt := top 32
abbrev sLIs : Stmt := top 33
abbrev sLBy : Stmt := top 34
abbrev sLaw : Stmt := top 35
/-- the built-in names are not taken; the axes stand -/
structure Txt (K : PySem.W.Frag) (mg : Str → Option Value) (ax : Addr) : Prop where
  len : mg "len" = none
  isi : mg "isinstance" = none
  tuple : mg "tuple" = none
  int : mg "int" = none
  bool : mg "bool" = none
  all : mg "all" = none
  zip : mg "zip" = none
  sorted : mg "sorted" = none
  list : mg "list" = none
  range : mg "range" = none
  dict : mg "dict" = none
  enum : mg "enumerate" = none
  axes : mg "AXES" = some (.ref ax)
  axT : ∀ H, SqT K H ax [.int 0, .int 1, .int 2]
theorem ty_tup {K : PySem.W.Frag} {H : Hp} {a : Addr} {xs : List V} (h : SqT K H a xs) : TyX K H (.ref a) (.type "tuple") := by
  rcases h with (h | ⟨o, h⟩) | ⟨o, its, n, h1, h2, _⟩
  · exact .base (.tup h)
  · exact .fTuple h
  · exact .kTuple h1 h2
section
variable {P : Program} {w : World} {K : PySem.W.Frag} {mg : Str → Option Value} {base : Heap} {ax : Addr}
/-! ### is_number -/
theorem scIsNumber : FnScope ["thing"] ["thing"] (defScope sIsNumber) := ⟨rfl, rfl, rfl, by decide +kernel, rfl, by decide +kernel, by decide +kernel⟩
def spIsNumber : Sp := fun vs H Q _ => ∃ i : Int, vs = [.int i] ∧ Q (.bl true) H
theorem ok_isNumber {f : Addr} {fd : FuncData} (F : Fun K "is_number" "is_number" sIsNumber f fd) (T : Txt K mg ax) : FnOk P w K mg base CX0 1 f fd ["thing"] spIsNumber := by
  refine F.ok scIsNumber (fun vs H Q E h => ?_) (fun cdv A outer s H vs Q E hr h => ?_)
  · obtain ⟨i, rfl, _⟩ := h
    rfl
  · obtain ⟨i, rfl, q⟩ := h
    refine ⟨_, pss_one (ps_ret (pe_and (pe_callB call_isi (by rfl) T.isi (by decide +kernel) (pa_cons (pv 0) (pa_cons (pe_bltn (v := .ty "int") (by rfl) T.int (by decide +kernel) rfl) pa_nil)))
      (pe_one (pe_not (pe_callB call_isi (by rfl) T.isi (by decide +kernel) (pa_cons (pv 0) (pa_cons (pe_bltn (v := .ty "bool") (by rfl) T.bool (by decide +kernel) rfl) pa_nil))))))), ?_⟩
    refine ⟨_, rfl, _, _, _, _, true, rfl, ClsV.ty "int", .base (.int i), kit_ty (by decide +kernel), true, rfl, iteT ?_⟩
    exact ⟨_, rfl, _, _, _, _, false, rfl, ClsV.ty "bool", .base (.int i), kit_ty (by decide +kernel), false, rfl, q⟩

/-! ### is_kept -/
theorem scIsKept : FnScope ["word", "is_in", "is_other"] ["word", "is_in", "is_other"] (defScope sIsKept) := ⟨rfl, rfl, rfl, by decide +kernel, rfl, by decide +kernel, by decide +kernel⟩
def wS (k : Bool) : Str := if k then "either" else "both"
def spIsKept : Sp := fun vs H Q _ => ∃ k a b : Bool, vs = [.str (wS k), .bl a, .bl b] ∧ Q (.bl (kept k a b)) H
theorem ok_isKept {f : Addr} {fd : FuncData} (F : Fun K "is_kept" "is_kept" sIsKept f fd) : FnOk P w K mg base CX0 1 f fd ["word", "is_in", "is_other"] spIsKept := by
  refine F.ok scIsKept (fun vs H Q E h => ?_) (fun cdv A outer s H vs Q E hr h => ?_)
  · obtain ⟨k, a, b, rfl, _⟩ := h
    rfl
  · obtain ⟨k, a, b, rfl, q⟩ := h
    refine ⟨_, pss_cons (ps_if (pt_cmpR op_eq (pv 0) pe_str (nomark _)) (pss_one (ps_ret (pe_or (pv 1) (pe_one (pv 2))))) pss_nil)
      (pss_one (ps_ret (pe_ifExp (pt_cmpR op_eq (pv 0) pe_str (nomark _)) (pe_and (pv 1) (pe_one (pv 2))) (pe_and (pv 1) (pe_one (pe_not (pv 2))))))), ?_⟩
    cases k with
    | true =>
      refine ⟨_, rfl, rfl, true, by simp [wS], iteT ?_⟩
      refine ⟨_, rfl, a, rfl, ?_⟩
      cases a with
      | true => exact iteT q
      | false => exact iteF ⟨_, rfl, q⟩
    | false =>
      refine ⟨_, rfl, rfl, false, by rw [decide_eq_false]; intro e; exact absurd (V.str.inj e) (by decide +kernel), iteF ?_⟩
      refine ⟨_, rfl, rfl, true, by simp [wS], iteT ?_⟩
      refine ⟨_, rfl, a, rfl, ?_⟩
      cases a with
      | true => exact iteT ⟨_, rfl, q⟩
      | false => exact iteF q
end
end K4
/-! C1_Ends: dict keys; ends_of. -/
namespace K4
open PySem PySem.Spec PyProof.Rows L2

theorem keys_putK {C : Type} [DecidableEq C] (kvs : List (C × V)) (k : C) (v : V) : (putK kvs k v).map (·.1) = if k ∈ kvs.map (·.1) then kvs.map (·.1) else kvs.map (·.1) ++ [k] := by
  unfold putK
  by_cases h : k ∈ kvs.map (·.1)
  · have h1 : (kvs.any fun kv => decide (kv.1 = k)) = true := by
      obtain ⟨p, hp, e⟩ := List.mem_map.mp h
      exact List.any_eq_true.mpr ⟨p, hp, decide_eq_true e⟩
    rw [if_pos h1, if_pos h, List.map_map]
    refine List.map_congr_left fun p _ => ?_
    show (if p.1 = k then (p.1, v) else p).1 = p.1
    by_cases e : p.1 = k
    · rw [if_pos e]
    · rw [if_neg e]
  · have h1 : ¬ (kvs.any fun kv => decide (kv.1 = k)) = true := by
      intro z
      obtain ⟨p, hp, e⟩ := List.any_eq_true.mp z
      exact h (List.mem_map.mpr ⟨p, hp, of_decide_eq_true e⟩)
    rw [if_neg h1, if_neg h, List.map_append]
    rfl
/-- a dict with int keys: its keys in order -/
def IntKeys (kvs : List (Key × V)) (ks : List Int) : Prop := kvs.map (·.1) = ks.map Sum.inl
def insI (ks : List Int) (x : Int) : List Int := if x ∈ ks then ks else ks ++ [x]
theorem IntKeys.put {kvs : List (Key × V)} {ks : List Int} (h : IntKeys kvs ks) (x : Int) (v : V) : IntKeys (putK kvs (Sum.inl x) v) (insI ks x) := by
  unfold IntKeys
  rw [keys_putK, show kvs.map (·.1) = ks.map Sum.inl from h]
  unfold insI
  by_cases hx : x ∈ ks
  · rw [if_pos hx, if_pos (List.mem_map.mpr ⟨x, hx, rfl⟩)]
  · rw [if_neg hx, if_neg (fun z => by
      obtain ⟨y, hy, e⟩ := List.mem_map.mp z
      cases e
      exact hx hy), List.map_append]
    rfl
theorem mem_insI {ks : List Int} {x y : Int} : y ∈ insI ks x ↔ y ∈ ks ∨ y = x := by
  unfold insI
  by_cases h : x ∈ ks
  · rw [if_pos h]
    exact ⟨.inl, fun z => z.elim id fun e => e ▸ h⟩
  · rw [if_neg h, List.mem_append, List.mem_singleton]
theorem nodup_insI {ks : List Int} {x : Int} (h : ks.Nodup) : (insI ks x).Nodup := by
  unfold insI
  by_cases hq : x ∈ ks
  · rw [if_pos hq]
    exact h
  · rw [if_neg hq]
    refine List.nodup_append.mpr ⟨h, by simp, fun a ha b hb e => ?_⟩
    rw [List.mem_singleton.mp hb] at e
    exact hq (e ▸ ha)
theorem insI_len (ks : List Int) (x : Int) : (insI ks x).length ≤ ks.length + 1 := by
  unfold insI
  by_cases h : x ∈ ks
  · rw [if_pos h]
    omega
  · rw [if_neg h, List.length_append]
    exact Nat.le_refl _
theorem bd_len {ks : List Int} (hn : ks.Nodup) (hb : ∀ x ∈ ks, Bd x) : ks.length ≤ 41 := by
  have := nodup_len (m := rng (-20) 21) hn fun x hx => mem_rng.mpr (by have := hb x hx; exact ⟨this.1, by have := this.2; omega⟩)
  rw [len_rng] at this
  exact this
theorem IntKeys.len {kvs : List (Key × V)} {ks : List Int} (h : IntKeys kvs ks) : kvs.length = ks.length := by
  have := congrArg List.length h
  rw [List.length_map, List.length_map] at this
  exact this
/-- an item begins with two ints -/
def HasEnds (K : PySem.W.Frag) (H : Hp) (x : V) (p : Int × Int) : Prop := ∃ t r, x = .ref t ∧ SqT K H t (.int p.1 :: .int p.2 :: r)
theorem paired_at {A B : Type} {R : A → B → Prop} : ∀ {l : List A} {m : List B} {i : Nat} {x : A}, Paired R l m → l[i]? = some x → ∃ y, m[i]? = some y ∧ R x y
  | _, _, _, _, .nil, h => by simp at h
  | _, _, 0, _, .cons r _, h => by
    cases (Option.some.inj h)
    exact ⟨_, rfl, r⟩
  | _, _, i + 1, _, .cons _ t, h => paired_at (i := i) t h
theorem paired_app {A B : Type} {R : A → B → Prop} : ∀ {l l' : List A} {m m' : List B}, Paired R l m → Paired R l' m' → Paired R (l ++ l') (m ++ m')
  | _, _, _, _, .nil, h => h
  | _, _, _, _, .cons r t, h => .cons r (paired_app t h)
theorem ends_rows {K : PySem.W.Frag} {H : Hp} : ∀ {xs : List V} {r : Row}, TpAll K H xs (r.map segD) → Paired (HasEnds K H) xs r
  | [], [], _ => .nil
  | [], _ :: _, h => nomatch h
  | _ :: _, [], h => nomatch h
  | x :: xs, p :: r, .cons h t => by
    obtain ⟨a, rfl, s⟩ := Tp.seg h
    exact .cons ⟨a, [], rfl, s⟩ (ends_rows t)
theorem ends_strs {A : Type} {D : A → PyData} {K : PySem.W.Frag} {H : Hp} : ∀ {xs : List V} {s : Sx A}, TpAll K H xs (s.map (strD D)) → Paired (HasEnds K H) xs (s.map fun p => (p.1, p.2.1))
  | [], [], _ => .nil
  | [], _ :: _, h => nomatch h
  | _ :: _, [], h => nomatch h
  | x :: xs, p :: r, .cons h t => by
    obtain ⟨a, z, rfl, s, _⟩ := Tp.str h
    exact .cons ⟨a, [z], rfl, s⟩ (ends_strs t)
theorem same_at {H H1 : Hp} {d : Addr} {o : HO} (s : Same H H1) (hd : H d = none) : Same H (upd H1 d o) := fun b x e => by
  rw [upd_ne (ne_of_none e hd)]
  exact s b x e
theorem asc_of {ys ks : List Int} (hp : ys.Perm ks) (hn : ks.Nodup) (hs : ys.Pairwise (· ≤ ·)) : ys.Pairwise (· < ·) := by
  have h1 : ys.Nodup := hp.nodup_iff.mpr hn
  refine List.Pairwise.imp_of_mem (R := fun a b => a ≤ b ∧ a ≠ b) (fun _ _ h => by omega) ?_
  exact List.Pairwise.and hs h1
section
variable {P : Program} {w : World} {K : PySem.W.Frag} {mg : Str → Option Value} {base : Heap} {ax : Addr}
theorem scEnds : FnScope ["one", "other", "found", "part"] ["one", "other"] (defScope sEndsOf) := ⟨rfl, rfl, rfl, by decide +kernel, rfl, by decide +kernel, by decide +kernel⟩
def spEnds (K : PySem.W.Frag) : Sp := fun vs H Q _ => ∃ (a b : Addr) (xs ys : List V) (ps : List (Int × Int)), vs = [.ref a, .ref b] ∧ SqT K H a xs ∧ SqT K H b ys ∧ Paired (HasEnds K H) (xs ++ ys) ps ∧ (∀ p ∈ ps, Bd p.1 ∧ Bd p.2) ∧ ps.length ≤ 100 ∧
  ∀ (E : List Int) (H' : Hp) (l : Addr), E.Pairwise (· < ·) → (∀ x, x ∈ E ↔ ∃ p ∈ ps, x = p.1 ∨ x = p.2) → Same H H' → H l = none → H' l = some (.lst (E.map V.int)) → Q (.ref l) H'
theorem ok_ends {f : Addr} {fd : FuncData} (F : Fun K "ends_of" "ends_of" sEndsOf f fd) (T : Txt K mg ax) : FnOk P w K mg base CX0 1 f fd ["one", "other"] (spEnds K) := by
  refine F.ok scEnds (fun vs H Q E h => ?_) (fun cdv A outer s H vs Q E hr h => ?_)
  · obtain ⟨a, b, xs, ys, ps, rfl, _⟩ := h
    rfl
  · obtain ⟨a, b, xs, ys, ps, rfl, hx, hy, hp, hb, hl, q⟩ := h
    have hu := hu_of hr
    refine ⟨_, pss_cons (ps_set (i := 2) scEnds.nd rfl (.inl rfl) pe_dnewK)
      (pss_cons (ps_for PassesOwn.never rfl (pi_list (pe_lst (StX.pa_star (pv 0) (StX.pa_star (pv 1) pa_nil)))) (pg_name (i := 3) scEnds.nd rfl (.inl rfl))
        (pss_one (ps_asg (pe_tup (pa_cons pe_bl (pa_cons pe_bl pa_nil))) (pg_tup rfl (pgs_cons (pg_sub (pv 2) (pe_ix ix_tup (pv 3) pe_int (fun _ _ => rfl)) (set_dict hu)) (pgs_cons (pg_sub (pv 2) (pe_ix ix_tup (pv 3) pe_int (fun _ _ => rfl)) (set_dict hu)) pgs_nil))))))
      (pss_one (ps_ret (pe_callB (call_sortedDI rfl) (by rfl) T.sorted (by decide +kernel) (pa_cons (pv 2) pa_nil))))), ?_⟩
    -- found = {}
    intro d nd
    have s1 : Same H (upd H d (.dK [])) := same_new nd
    have hlen : (xs ++ ys).length ≤ 100 := by rw [Paired.length hp]; exact hl
    -- [*one, *other]
    refine ⟨.ref a, rfl, a, xs, rfl, .inl (same_seqT s1 hx), .ref b, rfl, b, ys, rfl, .inl (same_seqT s1 hy), ?_, fun l nl => ?_⟩
    · rw [List.append_nil]
      exact Nat.le_of_lt (small1000 (by omega))
    have hld : l ≠ d := fun e => by
      rw [e, upd_same] at nl
      cases nl
    have nlH : H l = none := by
      rw [upd_ne hld] at nl
      exact nl
    rw [List.append_nil]
    have hLl : (upd (upd H d (.dK [])) l (.lst (xs ++ ys))) l = some (.lst (xs ++ ys)) := upd_same
    refine ⟨l, rfl, ⟨_, .inl (.inl hLl)⟩, for_list (K := K) (a := l) (xs := xs ++ ys) (fun i σ H3 => ∃ kvs ks y3, σ = [some (.ref a), some (.ref b), some (.ref d), y3] ∧ Same H H3 ∧ H3 l = some (.lst (xs ++ ys)) ∧ H3 d = some (.dK kvs) ∧ IntKeys kvs ks ∧ ks.Nodup ∧ ∀ x, x ∈ ks ↔ ∃ p ∈ ps.take i, x = p.1 ∨ x = p.2)
      ⟨[], [], none, rfl, ?_, hLl, ?_, rfl, List.nodup_nil, fun x => ?_⟩ (fun i σ H3 _ ⟨_, _, _, _, _, hL, _⟩ => .inl (.inl hL)) ?_ ?_⟩
    · exact same_at s1 nlH
    · rw [upd_ne hld.symm, upd_same]
    · simp
    · rintro i x σ H3 hi ⟨kvs, ks, y3, rfl, s3, hL, hD, hK, hN, hS⟩
      obtain ⟨p, hpi, t, r, rfl, ht⟩ := paired_at hp hi
      have hpm := List.mem_of_getElem? hpi
      have hkl : ks.length ≤ 41 := bd_len hN fun x hx => by
        obtain ⟨p, hp, e⟩ := (hS x).mp hx
        have hbp := hb p (List.mem_of_mem_take hp)
        rcases e with e | e
        · rw [e]; exact hbp.1
        · rw [e]; exact hbp.2
      -- part; (True, True)
      refine ⟨by decide, fun T' nT => ?_⟩
      have nTd : d ≠ T' := ne_of_none hD nT
      have nTl : l ≠ T' := ne_of_none hL nT
      have s4 : Same H (upd H3 T' (.tup [.bl true, .bl true])) := s3.trans (same_new nT)
      have hD4 : (upd H3 T' (.tup [.bl true, .bl true])) d = some (.dK kvs) := by rw [upd_ne nTd]; exact hD
      refine ⟨T', _, rfl, seqT_new, rfl, .bl true, [.bl true], rfl, ?_⟩
      refine ⟨.ref d, rfl, .ref t, rfl, t, _, 0, .int p.1, rfl, rfl, same_seqT s4 ht, atI_nat (j := 0) rfl, d, _, rfl, DPut.k (k := Sum.inl p.1) hD4 (small1000 (by rw [hK.len]; omega)), ?_⟩
      have s5 : Same H (upd (upd H3 T' (.tup [.bl true, .bl true])) d (.dK (putK kvs (Sum.inl p.1) (.bl true)))) := same_at s4 nd
      refine ⟨.bl true, [], rfl, .ref d, rfl, .ref t, rfl, t, _, 1, .int p.2, rfl, rfl, same_seqT s5 ht, atI_nat (j := 1) rfl, d, _, rfl, DPut.k (k := Sum.inl p.2) upd_same (small1000 (by rw [(hK.put _ _).len]; have := insI_len ks p.1; omega)), rfl, ?_⟩
      refine ⟨_, _, _, rfl, same_at s5 nd, ?_, upd_same, (hK.put _ _).put _ _, nodup_insI (nodup_insI hN), fun x => ?_⟩
      · rw [upd_ne hld, upd_ne hld, upd_ne nTl]
        exact hL
      · rw [mem_insI, mem_insI, hS, List.take_add_one, hpi]
        constructor
        · rintro ((⟨p', h1, h2⟩ | h) | h)
          · exact ⟨p', List.mem_append_left _ h1, h2⟩
          · exact ⟨p, List.mem_append_right _ (by simp), .inl h⟩
          · exact ⟨p, List.mem_append_right _ (by simp), .inr h⟩
        · rintro ⟨p', h1, h2⟩
          rcases List.mem_append.mp h1 with h1 | h1
          · exact .inl (.inl ⟨p', h1, h2⟩)
          · have e : p' = p := by simpa using h1
            subst e
            rcases h2 with h2 | h2
            · exact .inl (.inr h2)
            · exact .inr h2
    · rintro σ H3 ⟨kvs, ks, y3, rfl, s3, hL, hD, hK, hN, hS⟩
      rw [Paired.length hp, List.take_length] at hS
      have hkl : ks.length ≤ 41 := bd_len hN fun x hx => by
        obtain ⟨p, hp, e⟩ := (hS x).mp hx
        have hbp := hb p hp
        rcases e with e | e
        · rw [e]; exact hbp.1
        · rw [e]; exact hbp.2
      refine ⟨.ref d, rfl, d, kvs, ks, rfl, .inl hD, hK, by omega, fun zs p hperm hle np => ?_⟩
      refine q zs _ p (asc_of hperm hN hle) (fun x => by rw [hperm.mem_iff]; exact hS x) (s3.trans (same_new np)) ?_ upd_same
      exact s3.free np
end
end K4
/-! C2_Ptr: the pointer loops and tests that rows_made and stretches_made share. -/
namespace K4
open PySem PySem.Spec PyProof.Rows L2

/-! ### the ends by place -/
def bAt (E : List Int) (i : Nat) : Int := (E[i]?).getD 0
theorem e_first {E : List Int} (hE : E.Pairwise (· < ·)) {x : Int} (hx : x < bAt E 0) : ∀ y ∈ E, x < y := by
  cases E with
  | nil => exact fun y hy => nomatch hy
  | cons a r =>
    intro y hy
    have hx : x < a := hx
    rcases List.mem_cons.mp hy with e | hy
    · omega
    · have := (List.pairwise_cons.mp hE).1 y hy
      omega
theorem e_last {E : List Int} (hE : E.Pairwise (· < ·)) {x : Int} (hx : bAt E (E.length - 1) ≤ x) : ∀ y ∈ E, y ≤ x := by
  intro y hy
  obtain ⟨j, hj⟩ := List.getElem?_of_mem hy
  obtain ⟨c1, c2⟩ := List.getElem?_eq_some_iff.mp hj
  have hl : E.length - 1 < E.length := by omega
  have e1 : bAt E (E.length - 1) = E[E.length - 1] := by
    unfold bAt
    rw [List.getElem?_eq_getElem hl]
    rfl
  rw [e1] at hx
  by_cases h : j = E.length - 1
  · subst h
    omega
  · have := List.pairwise_iff_getElem.mp hE j (E.length - 1) c1 hl (by omega)
    omega
theorem bAt_get {E : List Int} {i : Nat} (h : i < E.length) : E[i]? = some (bAt E i) := by
  unfold bAt
  rw [List.getElem?_eq_getElem h]
  rfl
theorem bAt_lt {E : List Int} (hE : E.Pairwise (· < ·)) {i : Nat} (h : i + 1 < E.length) : bAt E i < bAt E (i + 1) := (consec hE (bAt_get (Nat.lt_of_succ_lt h)) (bAt_get h)).1
theorem cut1 (xs : List V) : cutV xs (some 1) none = xs.drop 1 := by
  unfold cutV
  rw [show HT.sIx xs.length 0 (some 1) = min 1 xs.length from HT.sIx_nat xs.length 0 1, HT.sIx_none]
  cases xs with
  | nil => rfl
  | cons x r =>
    rw [show min 1 (x :: r).length = 1 by
      rw [List.length_cons]
      omega]
    show (List.take ((x :: r).length - 1) r) = r
    rw [List.length_cons, Nat.add_sub_cancel]
    exact List.take_length

section
variable {K : PySem.W.Frag} {H : Hp} {σ : L2.St} {i a l : Nat} {p : Addr} {xs : List V} {ps : List (Int × Int)} {at_ : Nat} {low : Int}
theorem set_ne {v : Option V} {j k : Nat} (h : j ≠ k) : (σ.set j v)[k]? = σ[k]? := List.getElem?_set_ne h
theorem set_eq {v : Option V} {j : Nat} {u : Option V} (h : σ[j]? = some u) : (σ.set j v)[j]? = some v := by
  rw [List.getElem?_set_self (List.getElem?_eq_some_iff.mp h).1]
/-- at < len(xs) and xs[at][1] <= low -/
theorem ptr_test {z : Nat} {c : Int} {Q : Bool → Hp → Prop} (hp : σ[a]? = some (some (.ref p))) (hS : SqT K H p xs) (hE : Paired (HasEnds K H) xs ps) (hi : σ[i]? = some (some (.int (at_ : Nat)))) (hl : σ[l]? = some (some (.int low)))
    (pick : ∀ q : Int × Int, z = 1 ∧ c = 1 ∨ z = 0 ∧ c = 0) (h1 : ∀ q, ps[at_]? = some q → (if z = 1 then q.2 else q.1) ≤ low → Q true H) (h2 : ∀ q, ps[at_]? = some q → ¬ (if z = 1 then q.2 else q.1) ≤ low → Q false H) (h3 : ps[at_]? = none → Q false H) :
    tAnd (tTest (tOp (rI0 fun i j => .bl (decide (i < j))) (tVar i) (tCB (fun xs H Q => ∃ p ys, xs = [.ref p] ∧ (SqL K H p ys ∨ SqT K H p ys) ∧ Q (.int ys.length) H) (tCons (tVar a) tNil))))
      (tTest (tOp (rI0 fun i j => .bl (decide (i ≤ j))) (tOp (rIxT K) (tOp (rIxT K) (tVar a) (tVar i)) (tC (.int c))) (tVar l))) σ H Q := by
  have hlen := Paired.length hE
  refine ⟨_, hi, _, hp, p, xs, rfl, .inr hS, _, _, rfl, rfl, _, rfl, ?_⟩
  by_cases hlt : at_ < ps.length
  · rw [decide_eq_true (show ((at_ : Nat) : Int) < (xs.length : Int) by omega)]
    refine iteT ?_
    have hx : xs[at_]? = some (xs[at_]'(by omega)) := List.getElem?_eq_getElem _
    obtain ⟨q, hq, t, r, ex, ht⟩ := paired_at hE hx
    have hat : atI (V.int q.1 :: V.int q.2 :: r) c = some (.int (if z = 1 then q.2 else q.1)) := by
      rcases pick q with ⟨e1, e2⟩ | ⟨e1, e2⟩
      · subst e1 e2
        exact atI_nat (j := 1) rfl
      · subst e1 e2
        exact atI_nat (j := 0) rfl
    refine ⟨_, hp, _, hi, p, xs, _, _, rfl, rfl, hS, atI_nat hx, ?_⟩
    refine ⟨t, _, c, _, ex, rfl, ht, hat, _, hl, _, _, rfl, rfl, _, rfl, ?_⟩
    by_cases hc : (if z = 1 then q.2 else q.1) ≤ low
    · rw [decide_eq_true hc]
      exact h1 q hq hc
    · rw [decide_eq_false hc]
      exact h2 q hq hc
  · rw [decide_eq_false (show ¬ ((at_ : Nat) : Int) < (xs.length : Int) by omega)]
    exact iteF (h3 (List.getElem?_eq_none (by omega)))
/-- the same as a value, by [0] -/
theorem ptr_val0 {Q : VK} (hp : σ[a]? = some (some (.ref p))) (hS : SqT K H p xs) (hE : Paired (HasEnds K H) xs ps) (hi : σ[i]? = some (some (.int (at_ : Nat)))) (hl : σ[l]? = some (some (.int low)))
    (h : ∀ b : Bool, (∀ q, ps[at_]? = some q → q.1 ≤ low → b = true) → (∀ q, ps[at_]? = some q → ¬ q.1 ≤ low → b = false) → (ps[at_]? = none → b = false) → Q (.bl b) H) :
    tAndV (tOp (rI0 fun i j => .bl (decide (i < j))) (tVar i) (tCB (fun xs H Q => ∃ p ys, xs = [.ref p] ∧ (SqL K H p ys ∨ SqT K H p ys) ∧ Q (.int ys.length) H) (tCons (tVar a) tNil)))
      (tOp (rI0 fun i j => .bl (decide (i ≤ j))) (tOp (rIxT K) (tOp (rIxT K) (tVar a) (tVar i)) (tC (.int 0))) (tVar l)) σ H Q := by
  have hlen := Paired.length hE
  refine ⟨_, hi, _, hp, p, xs, rfl, .inr hS, _, _, rfl, rfl, _, rfl, ?_⟩
  by_cases hlt : at_ < ps.length
  · rw [decide_eq_true (show ((at_ : Nat) : Int) < (xs.length : Int) by omega)]
    refine iteT ?_
    have hx : xs[at_]? = some (xs[at_]'(by omega)) := List.getElem?_eq_getElem _
    obtain ⟨q, hq, t, r, ex, ht⟩ := paired_at hE hx
    refine ⟨_, hp, _, hi, p, xs, _, _, rfl, rfl, hS, atI_nat hx, ?_⟩
    refine ⟨t, _, 0, _, ex, rfl, ht, atI_nat (j := 0) rfl, _, hl, _, _, rfl, rfl, ?_⟩
    refine h _ (fun q' h1 h2 => ?_) (fun q' h1 h2 => ?_) fun hn => ?_
    · rw [hq] at h1
      cases h1
      exact decide_eq_true h2
    · rw [hq] at h1
      cases h1
      exact decide_eq_false h2
    · rw [hq] at hn
      cases hn
  · rw [decide_eq_false (show ¬ ((at_ : Nat) : Int) < (xs.length : Int) by omega)]
    refine iteF (h false (fun q' h1 _ => ?_) (fun _ _ _ => rfl) fun _ => rfl)
    rw [List.getElem?_eq_none (by omega)] at h1
    cases h1
/-- while at < len(xs) and xs[at][1] <= low: at += 1 -/
theorem ptr_while {D : Ends} (hp : σ[a]? = some (some (.ref p))) (hS : SqT K H p xs) (hE : Paired (HasEnds K H) xs ps) (hi : σ[i]? = some (some (.int (at_ : Nat)))) (hl : σ[l]? = some (some (.int low)))
    (hia : i ≠ a) (hil : i ≠ l) (hle : at_ ≤ ps.length) (hb : ∀ j q, j < at_ → ps[j]? = some q → q.2 ≤ low)
    (h : ∀ m : Nat, m ≤ ps.length → (∀ j q, j < m → ps[j]? = some q → q.2 ≤ low) → (∀ q, ps[m]? = some q → low < q.2) → D.nx (σ.set i (some (.int (m : Nat)))) H) :
    tWhile (tAnd (tTest (tOp (rI0 fun i j => .bl (decide (i < j))) (tVar i) (tCB (fun xs H Q => ∃ p ys, xs = [.ref p] ∧ (SqL K H p ys ∨ SqT K H p ys) ∧ Q (.int ys.length) H) (tCons (tVar a) tNil))))
      (tTest (tOp (rI0 fun i j => .bl (decide (i ≤ j))) (tOp (rIxT K) (tOp (rIxT K) (tVar a) (tVar i)) (tC (.int 1))) (tVar l))))
      (tAug i (tC (.int 1)) (ipI fun i j => i + j)) D σ H := by
  have hσ : σ.set i (some (.int (at_ : Nat))) = σ := by
    obtain ⟨h1, h2⟩ := List.getElem?_eq_some_iff.mp hi
    rw [← h2]
    exact List.set_getElem_self h1
  refine ⟨fun m σ' H' => H' = H ∧ ∃ k : Nat, σ' = σ.set i (some (.int (k : Nat))) ∧ k ≤ ps.length ∧ m = ps.length - k ∧ ∀ j q, j < k → ps[j]? = some q → q.2 ≤ low, ⟨_, rfl, at_, hσ.symm, hle, rfl, hb⟩, ?_⟩
  rintro m σ' H' ⟨rfl, k, rfl, hk, rfl, hb'⟩
  refine ptr_test (z := 1) (at_ := k) (by rw [set_ne hia]; exact hp) hS hE (set_eq hi) (by rw [set_ne hil]; exact hl) (fun _ => .inl ⟨rfl, rfl⟩) (fun q hq hc => ?_) (fun q hq hc => ?_) fun hn => ?_
  · have hc : q.2 ≤ low := hc
    have hkl := (List.getElem?_eq_some_iff.mp hq).1
    refine iteT ⟨fun σ2 H2 => H2 = H' ∧ σ2 = σ.set i (some (.int ((k + 1 : Nat) : Int))), fun σ2 H2 ⟨e1, e2⟩ => ⟨ps.length - (k + 1), by omega, e1, k + 1, e2, hkl, rfl, fun j q' hj hq' => ?_⟩, ?_⟩
    · by_cases e : j = k
      · subst e
        rw [hq] at hq'
        cases hq'
        exact hc
      · exact hb' j q' (by omega) hq'
    · refine ⟨_, set_eq hi, _, _, rfl, rfl, rfl, ?_⟩
      rw [List.set_set]
      rfl
  · have hc : ¬ q.2 ≤ low := hc
    refine iteF (h k hk hb' fun q' hq' => ?_)
    rw [hq] at hq'
    cases hq'
    omega
  · refine iteF (h k hk hb' fun q' hq' => ?_)
    rw [hn] at hq'
    cases hq'
end
end K4
/-! C3_Rows: rows_made. -/
namespace K4
open PySem PySem.Spec PyProof.Rows L2

/-- what an inner function promises: two insides and a word, a new inside by a relation -/
def spInner {A : Type} (K : PySem.W.Frag) (D : A → PyData) (Good : A → Prop) (R : Bool → A → A → A → Prop) : Sp := fun vs H Q _ => ∃ (v w : V) (a b : A) (k : Bool), vs = [v, w, .str (wS k)] ∧ Tp K H v (D a) ∧ Tp K H w (D b) ∧ Good a ∧ Good b ∧
  ∀ (c : A) (H' : Hp) (u : V), Same H H' → Good c → R k a b c → Tp K H' u (D c) → Q u H'
def RowR (k : Bool) (a b c : Row) : Prop := ∀ x, rmem c x = kept k (rmem a x) (rmem b x)
theorem rs_append (r t : Row) : rs (r ++ t) = rs r ++ rs t := by
  unfold rs
  rw [List.map_append]
theorem rs_inv {r : Row} {init : Sx Bool} {p : Int × Int × Bool} (h : rs r = init ++ [p]) : ∃ i q, r = i ++ [q] ∧ init = rs i ∧ p = (q.1, q.2, true) := by
  rcases List.eq_nil_or_concat r with e | ⟨i, q, e⟩
  · subst e
    have := congrArg List.length h
    rw [List.length_append] at this
    simp [rs] at this
  · rw [List.concat_eq_append] at e
    subst e
    rw [rs_append] at h
    have h2 := List.append_inj' h rfl
    have e2 : [(q.1, q.2, true)] = [p] := h2.2
    exact ⟨i, q, rfl, h2.1.symm, (List.cons.inj e2).1.symm⟩
theorem row_ends {r : Row} (h : RowOk r) {E : List Int} (hE : ∀ p ∈ r, p.1 ∈ E ∧ p.2 ∈ E) : EndsIn (rs r) E := by
  intro p hp
  obtain ⟨q, hq, e⟩ := List.mem_map.mp hp
  subst e
  exact hE q hq
/-- where a list ends -/
theorem last_cases {A : Type} (l : List A) : l = [] ∨ ∃ i x, l = i ++ [x] := by
  rcases List.eq_nil_or_concat l with e | ⟨i, q, e⟩
  · exact .inl e
  · exact .inr ⟨i, q, by rw [e, List.concat_eq_append]⟩
theorem TpAll.snoc_inv {A : Type} {g : A → PyData} {K : PySem.W.Frag} {H : Hp} {vs : List V} {l : List A} {x : A} (h : TpAll K H vs ((l ++ [x]).map g)) : ∃ ws v, vs = ws ++ [v] ∧ TpAll K H ws (l.map g) ∧ Tp K H v (g x) := by
  rw [List.map_append] at h
  have hl := h.len
  rcases last_cases vs with e | ⟨ws, v, e⟩
  · subst e
    rw [List.length_append] at hl
    simp at hl
  · subst e
    have hn : ws.length = (l.map g).length := by
      rw [List.length_append, List.length_append] at hl
      simpa using hl
    have h1 := h.take ws.length
    rw [List.take_left' rfl, hn, List.take_left' rfl] at h1
    have h2 := h.drop ws.length
    rw [List.drop_left' rfl, hn, List.drop_left' rfl] at h2
    exact ⟨ws, v, rfl, h1, by cases h2 with | cons p _ => exact p⟩
theorem line2 (a b : V) : [a, b].length ≤ sizeLine := by
  show 2 ≤ sizeLine
  decide
theorem line3 (a b c : V) : [a, b, c].length ≤ sizeLine := by
  show 3 ≤ sizeLine
  decide
theorem set_last {A : Type} (l : List A) (x y : A) : (l ++ [x]).set l.length y = l ++ [y] := by
  rw [List.set_append_right _ _ (Nat.le_refl _), Nat.sub_self]
  rfl
theorem ix_last (n : Nat) : ixN (n + 1) (-1) = some n := by
  unfold ixN
  rw [if_neg (by decide), if_pos (by omega)]
  congr 1
  omega
section
variable {P : Program} {w : World} {K : PySem.W.Frag} {mg : Str → Option Value} {base : Heap} {ax : Addr}
theorem scRows : FnScope ["one", "other", "word", "found", "at", "place", "ends", "low", "high", "is_in"] ["one", "other", "word"] (defScope sRows) := ⟨rfl, rfl, rfl, by decide +kernel, rfl, by decide +kernel, by decide +kernel⟩
theorem ok_rows {f fE fK : Addr} {fd fdE fdK : FuncData} (F : Fun K "rows_made" "rows_made" sRows f fd) (T : Txt K mg ax)
    (FE : Fun K "ends_of" "ends_of" sEndsOf fE fdE) (bE : Binds K fdE ["one", "other"] []) (gE : mg "ends_of" = some (.ref fE))
    (FK : Fun K "is_kept" "is_kept" sIsKept fK fdK) (bK : Binds K fdK ["word", "is_in", "is_other"] []) (gK : mg "is_kept" = some (.ref fK)) :
    FnOk P w K mg base CX0 2 f fd ["one", "other", "word"] (spInner K rowD RowOk RowR) := by
  have GE : FnOk P w K mg base CX0 1 fE fdE ["one", "other"] (spEnds K) := ok_ends FE T
  have GK : FnOk P w K mg base CX0 1 fK fdK ["word", "is_in", "is_other"] spIsKept := ok_isKept FK
  refine F.ok scRows (fun vs H Q E h => ?_) (fun cdv A outer s H vs Q E hr h => ?_)
  · obtain ⟨v, w', a, b, k, rfl, _⟩ := h
    rfl
  · obtain ⟨v1, v2, r1, r2, k, rfl, t1, t2, ok1, ok2, q⟩ := h
    obtain ⟨a1, xs1, rfl, hx1, al1⟩ := Tp.inv t1
    obtain ⟨a2, xs2, rfl, hx2, al2⟩ := Tp.inv t2
    have hu := hu_of hr
    refine ⟨_, pss_cons (ps_par3 (i := 3) (j := 4) (l := 5) rfl scRows.nd rfl rfl rfl (by decide) (by decide) (by decide) rfl rfl rfl (pa_cons (pe_lst pa_nil) (pa_cons pe_int (pa_cons pe_int pa_nil))) (by rfl))
      (pss_cons (ps_set (i := 6) scRows.nd rfl (.inl rfl) (pe_call GE hr (by rfl) gE FE.kp bE .nil pass0 (pa_cons (pv 0) (pa_cons (pv 1) pa_nil))))
      (pss_cons (ps_for PassesOwn.never rfl (pi_zip (by rfl) T.zip (pa_cons (pv 6) (pa_cons (pe_slice sl_list (pv 6) (po_some pe_int) po_none) pa_nil)))
          (pg_tup rfl (pgs_cons (pg_name (i := 7) scRows.nd rfl (.inl rfl)) (pgs_cons (pg_name (i := 8) scRows.nd rfl (.inl rfl)) pgs_nil)))
        (pss_cons (ps_while PassesOwn.never (PW.pt (pw_and (pt_cmpR op_lt (pv 4) (pe_callB call_len_seq (by rfl) T.len PySem.boot_len (pa_cons (pv 0) pa_nil)) (nomark _)) (pw_and1 (pt_cmpR op_le (pe_ix ix_tup (pe_ix ix_tup (pv 0) (pv 4) (fun _ _ => rfl)) pe_int (fun _ _ => rfl)) (pv 7) (nomark _)))))
            (pss_one (ps_aug (i := 4) scRows.nd rfl (.inl rfl) pe_int ip_add)))
        (pss_cons (ps_while PassesOwn.never (PW.pt (pw_and (pt_cmpR op_lt (pv 5) (pe_callB call_len_seq (by rfl) T.len PySem.boot_len (pa_cons (pv 1) pa_nil)) (nomark _)) (pw_and1 (pt_cmpR op_le (pe_ix ix_tup (pe_ix ix_tup (pv 1) (pv 5) (fun _ _ => rfl)) pe_int (fun _ _ => rfl)) (pv 7) (nomark _)))))
            (pss_one (ps_aug (i := 5) scRows.nd rfl (.inl rfl) pe_int ip_add)))
        (pss_cons (ps_set (i := 9) scRows.nd rfl (.inl rfl) (pe_and (pe_cmpR op_lt (pv 4) (pe_callB call_len_seq (by rfl) T.len PySem.boot_len (pa_cons (pv 0) pa_nil)) (nomark _)) (pe_one (pe_cmpR op_le (pe_ix ix_tup (pe_ix ix_tup (pv 0) (pv 4) (fun _ _ => rfl)) pe_int (fun _ _ => rfl)) (pv 7) (nomark _)))))
        (pss_one (ps_if (pt_val (pe_call GK hr (by rfl) gK FK.kp bK .nil pass0 (pa_cons (pv 2) (pa_cons (pv 9) (pa_cons (pe_and (pe_cmpR op_lt (pv 5) (pe_callB call_len_seq (by rfl) T.len PySem.boot_len (pa_cons (pv 1) pa_nil)) (nomark _)) (pe_one (pe_cmpR op_le (pe_ix ix_tup (pe_ix ix_tup (pv 1) (pv 5) (fun _ _ => rfl)) pe_int (fun _ _ => rfl)) (pv 7) (nomark _)))) pa_nil)))))
          (pss_one (ps_if (PW.pt (pw_and (pt_cmpR (op_neD hr.units) (pv 3) (pe_lst pa_nil) (nomark _)) (pw_and1 (pt_cmpR op_eq (pe_ix ix_tup (pe_ix ix_list (pv 3) (pe_un un_neg pe_int) (fun _ _ => rfl)) pe_int (fun _ _ => rfl)) (pv 7) (nomark _)))))
            (pss_one (ps_asg (pe_tup (pa_cons (pe_ix ix_tup (pe_ix ix_list (pv 3) (pe_un un_neg pe_int) (fun _ _ => rfl)) pe_int (fun _ _ => rfl)) (pa_cons (pv 8) pa_nil))) (pg_sub (pv 3) (pe_un un_neg pe_int) set_list)))
            (pss_one (ps_expr (pe_bm PySem.F.plainAttrs_list PySem.F.slot_list_append PySem.F.type_list_append mt_append (pv 3) (pa_cons (pe_tup (pa_cons (pv 7) (pa_cons (pv 8) pa_nil))) pa_nil))))))
          pss_nil))))))
      (pss_one (ps_ret (pe_callTy call_tuple_of (by rfl) T.tuple (by decide +kernel) (pa_cons (pv 3) pa_nil)))))), ?_⟩
    -- found, at, place = [], 0, 0
    refine ⟨Nat.zero_le _, fun l nl => ⟨_, _, _, rfl, ?_⟩⟩
    have s1 : Same H (upd H l (.lst [])) := same_new nl
    have hb1 : ∀ p ∈ r1 ++ r2, Bd p.1 ∧ Bd p.2 := fun p hp => (List.mem_append.mp hp).elim (fun h => (RowOk.at ok1 h).2) fun h => (RowOk.at ok2 h).2
    have hn1 := RowOk.len ok1
    have hn2 := RowOk.len ok2
    -- ends = ends_of(one, other)
    refine ⟨_, rfl, _, rfl, a1, a2, xs1, xs2, r1 ++ r2, rfl, same_seqT s1 hx1, same_seqT s1 hx2, paired_app (ends_rows (al1.mono (TS.same s1))) (ends_rows (al2.mono (TS.same s1))), hb1, by rw [List.length_append]; omega, fun E H2 e hE hmem s2 ne he => ?_⟩
    have hel : e ≠ l := fun z => by
      rw [z, upd_same] at ne
      cases ne
    have hl2 : H2 l = some (.lst []) := s2 _ _ upd_same
    have e1 : EndsIn (rs r1) E := row_ends ok1 fun p hp => ⟨(hmem _).mpr ⟨p, List.mem_append_left _ hp, .inl rfl⟩, (hmem _).mpr ⟨p, List.mem_append_left _ hp, .inr rfl⟩⟩
    have e2 : EndsIn (rs r2) E := row_ends ok2 fun p hp => ⟨(hmem _).mpr ⟨p, List.mem_append_right _ hp, .inl rfl⟩, (hmem _).mpr ⟨p, List.mem_append_right _ hp, .inr rfl⟩⟩
    have hbE : ∀ x ∈ E, Bd x := fun x hx => by
      obtain ⟨p, hp, z⟩ := (hmem x).mp hx
      rcases z with z | z
      · rw [z]; exact (hb1 p hp).1
      · rw [z]; exact (hb1 p hp).2
    -- zip(ends, ends[1:])
    refine ⟨.ref e, rfl, .ref e, rfl, 1, rfl, e, E.map V.int, rfl, .inl (.inl he), fun c nc => ?_⟩
    have hcut : cutV (E.map V.int) (some 1) none = (E.drop 1).map V.int := by rw [cut1, List.map_drop]
    rw [hcut]
    have hce : e ≠ c := ne_of_none he nc
    have hcl : l ≠ c := ne_of_none hl2 nc
    have s3 : Same H2 (upd H2 c (.lst ((E.drop 1).map V.int))) := same_new nc
    have s13 := (s1.trans s2).trans s3
    refine ⟨e, c, E.map V.int, _, rfl, .inl (.inl (s3 _ _ he)), .inl (.inl upd_same), ?_⟩
    refine for_it (walk_zip (K := K) (a := e) (b := c) (xs := E.map V.int) (ys := (E.drop 1).map V.int) (n := E.length - 1) (by rw [List.length_map, List.length_map, List.length_drop]; omega))
      (fun i σ H3 => ∃ (fr : Row) (ys : List V) (at_ place : Nat) (y7 y8 y9 : Option V), σ = [some (.ref a1), some (.ref a2), some (.str (wS k)), some (.ref l), some (.int (at_ : Nat)), some (.int (place : Nat)), some (.ref e), y7, y8, y9] ∧ Same H H3 ∧ H3 e = some (.lst (E.map V.int)) ∧ H3 c = some (.lst ((E.drop 1).map V.int)) ∧ H3 l = some (.lst ys) ∧ TpAll K H3 ys (fr.map segD) ∧
        Good false (fun _ => True) (fun x b => b = kept k (rmem r1 x) (rmem r2 x)) (bAt E i) (rs fr) ∧ at_ ≤ r1.length ∧ (∀ j q, j < at_ → r1[j]? = some q → q.2 ≤ bAt E i) ∧ place ≤ r2.length ∧ ∀ j q, j < place → r2[j]? = some q → q.2 ≤ bAt E i)
      ⟨[], [], 0, 0, none, none, none, rfl, s13, s3 _ _ he, upd_same, s3 _ _ hl2, .nil, Good.start fun x hx => ?_, Nat.zero_le _, fun j q hj => (Nat.not_lt_zero _ hj).elim, Nat.zero_le _, fun j q hj => (Nat.not_lt_zero _ hj).elim⟩
      (fun i σ H3 _ ⟨_, _, _, _, _, _, _, _, _, h1, h2, _⟩ => ⟨.inl (.inl h1), .inl (.inl h2)⟩) ?_ ?_
    · have z1 : rmem r1 x = false := val_before e1 (e_first hE hx)
      have z2 : rmem r2 x = false := val_before e2 (e_first hE hx)
      show false = kept k (rmem r1 x) (rmem r2 x)
      rw [z1, z2, kept_ff]
    · rintro i x σ H3 H4 hi ⟨fr, ys, at_, place, y7, y8, y9, rfl, s4, h4e, h4c, h4l, al, G, hat, hatb, hpl, hplb⟩ ⟨T', x1, x2, rfl, nT, rfl, f1, f2⟩
      have hi1 : i + 1 < E.length := by omega
      have hlt := bAt_lt hE hi1
      have ex1 : x1 = .int (bAt E i) := by
        have f1 : (E.map V.int)[i]? = some x1 := f1
        rw [List.getElem?_map, bAt_get (by omega)] at f1
        exact (Option.some.inj f1).symm
      have ex2 : x2 = .int (bAt E (i + 1)) := by
        have f2 : ((E.drop 1).map V.int)[i]? = some x2 := f2
        rw [List.getElem?_map, List.getElem?_drop, Nat.add_comm 1 i, bAt_get hi1] at f2
        exact (Option.some.inj f2).symm
      subst ex1 ex2
      have s5 : Same H3 (upd H3 T' (.tup [.int (bAt E i), .int (bAt E (i + 1))])) := same_new nT
      have s45 := s4.trans s5
      refine ⟨T', _, rfl, seqT_new, rfl, _, [_], rfl, _, [], rfl, rfl, ?_⟩
      -- while, while
      refine ptr_while (p := a1) (xs := xs1) (ps := r1) (at_ := at_) (low := bAt E i) rfl (same_seqT s45 hx1) (ends_rows (al1.mono (TS.same s45))) rfl rfl (by decide) (by decide) hat hatb fun m hm hmb hmlt => ?_
      refine ptr_while (p := a2) (xs := xs2) (ps := r2) (at_ := place) (low := bAt E i) rfl (same_seqT s45 hx2) (ends_rows (al2.mono (TS.same s45))) rfl rfl (by decide) (by decide) hpl hplb fun m2 hm2 hmb2 hmlt2 => ?_
      -- is_in
      have pv1 := ptr_val (at_ := m) (low := bAt E i) ok1 (fun j p hj hp => by
        unfold rs at hp
        rw [List.getElem?_map] at hp
        obtain ⟨q, hq, e⟩ := Option.map_eq_some_iff.mp hp
        subst e
        exact hmb j q hj hq) (fun p hp => by
        unfold rs at hp
        rw [List.getElem?_map] at hp
        obtain ⟨q, hq, e⟩ := Option.map_eq_some_iff.mp hp
        subst e
        exact hmlt q hq)
      have pv2 := ptr_val (at_ := m2) (low := bAt E i) ok2 (fun j p hj hp => by
        unfold rs at hp
        rw [List.getElem?_map] at hp
        obtain ⟨q, hq, e⟩ := Option.map_eq_some_iff.mp hp
        subst e
        exact hmb2 j q hj hq) (fun p hp => by
        unfold rs at hp
        rw [List.getElem?_map] at hp
        obtain ⟨q, hq, e⟩ := Option.map_eq_some_iff.mp hp
        subst e
        exact hmlt2 q hq)
      refine ptr_val0 (p := a1) (xs := xs1) (ps := r1) (at_ := m) (low := bAt E i) rfl (same_seqT s45 hx1) (ends_rows (al1.mono (TS.same s45))) rfl rfl fun b1 g1 g2 g3 => ?_
      have hb1 : b1 = rmem r1 (bAt E i) := by
        cases hq : r1[m]? with
        | none =>
          rw [g3 hq]
          exact (pv1.2.2 (by unfold rs; rw [List.getElem?_map, hq]; rfl)).symm
        | some p =>
          have hq' : (rs r1)[m]? = some (p.1, p.2, true) := by unfold rs; rw [List.getElem?_map, hq]; rfl
          by_cases hc : p.1 ≤ bAt E i
          · rw [g1 p hq hc]
            exact (pv1.1 _ hq' hc).symm
          · rw [g2 p hq hc]
            exact (pv1.2.1 _ hq' hc).symm
      refine ⟨_, rfl, _, rfl, ?_⟩
      refine ptr_val0 (p := a2) (xs := xs2) (ps := r2) (at_ := m2) (low := bAt E i) rfl (same_seqT s45 hx2) (ends_rows (al2.mono (TS.same s45))) rfl rfl fun b2 g1 g2 g3 => ?_
      have hb2 : b2 = rmem r2 (bAt E i) := by
        cases hq : r2[m2]? with
        | none =>
          rw [g3 hq]
          exact (pv2.2.2 (by unfold rs; rw [List.getElem?_map, hq]; rfl)).symm
        | some p =>
          have hq' : (rs r2)[m2]? = some (p.1, p.2, true) := by unfold rs; rw [List.getElem?_map, hq]; rfl
          by_cases hc : p.1 ≤ bAt E i
          · rw [g1 p hq hc]
            exact (pv2.1 _ hq' hc).symm
          · rw [g2 p hq hc]
            exact (pv2.2.1 _ hq' hc).symm
      refine ⟨k, b1, b2, rfl, _, rfl, ?_⟩
      -- what holds between low and high
      have hf : ∀ x, bAt E i ≤ x → x < bAt E (i + 1) → kept k b1 b2 = kept k (rmem r1 x) (rmem r2 x) := fun x h1 h2 => by
        have z1 : rmem r1 x = rmem r1 (bAt E i) := val_between e1 hE (bAt_get (by omega)) (bAt_get hi1) h1 h2
        have z2 : rmem r2 x = rmem r2 (bAt E i) := val_between e2 hE (bAt_get (by omega)) (bAt_get hi1) h1 h2
        rw [z1, z2, hb1, hb2]
      have up1 : ∀ j q, j < m → r1[j]? = some q → q.2 ≤ bAt E (i + 1) := fun j q h1 h2 => Int.le_trans (hmb j q h1 h2) (Int.le_of_lt hlt)
      have up2 : ∀ j q, j < m2 → r2[j]? = some q → q.2 ≤ bAt E (i + 1) := fun j q h1 h2 => Int.le_trans (hmb2 j q h1 h2) (Int.le_of_lt hlt)
      have hB := hbE _ (List.mem_of_getElem? (bAt_get (E := E) (i := i) (by omega)))
      have hB' := hbE _ (List.mem_of_getElem? (bAt_get (E := E) (i := i + 1) hi1))
      cases hk : kept k b1 b2 with
      | false =>
        rw [hk] at hf
        refine iteF ?_
        exact ⟨fr, ys, m, m2, _, _, _, rfl, s45, s5 _ _ h4e, s5 _ _ h4c, s5 _ _ h4l, al.mono (TS.same s5), G.skip hlt hf, hm, up1, hm2, up2⟩
      | true =>
        rw [hk] at hf
        refine iteT ?_
        -- found != []
        refine ⟨.ref l, rfl, Nat.zero_le _, fun n nn => ?_⟩
        have s6 : Same (upd H3 T' (.tup [.int (bAt E i), .int (bAt E (i + 1))])) (upd (upd H3 T' (.tup [.int (bAt E i), .int (bAt E (i + 1))])) n (.lst [])) := same_new nn
        have s56 := s5.trans s6
        have h6l := s56 _ _ h4l
        have al6 := al.mono (TS.same (K := K) s56)
        generalize hH6 : upd (upd H3 T' (.tup [.int (bAt E i), .int (bAt E (i + 1))])) n (.lst []) = H6 at *
        have h6n : H6 n = some (.lst []) := by rw [← hH6]; exact upd_same
        refine ⟨_, _, Dp.lst (.inl (.inl h6l)) al6.dp, Dp.lst (.inl (.inl h6n)) .nil, shaped_list segD_lay segD_dep (by decide) fr, shaped_lnil, _, rfl, ?_⟩
        rw [eqv_lnil]
        rcases last_cases fr with hfr | ⟨init, p, hfr⟩
        · subst hfr
          refine iteF (iteF ?_)
          -- append
          refine ⟨.ref l, rfl, .inl ⟨rfl, _, .inl (.inl h6l)⟩, _, rfl, _, rfl, line2 _ _, fun T2 n2 => ?_⟩
          have h2l : l ≠ T2 := ne_of_none h6l n2
          have s7 : Same H6 (upd H6 T2 (.tup [.int (bAt E i), .int (bAt E (i + 1))])) := same_new n2
          refine ⟨l, ys, _, rfl, rfl, s7 _ _ h6l, small1000 (by rw [al6.len']; exact Nat.zero_le _), ?_⟩
          have tsl := TS.lst (K := K) (o := .lst (ys ++ [.ref T2])) (s7 _ _ h6l)
          refine ⟨[] ++ [(bAt E i, bAt E (i + 1))], _, m, m2, _, _, _, rfl, same_at ((s4.trans s56).trans s7) nl, ?_, ?_, upd_same, ?_, ?_, hm, up1, hm2, up2⟩
          · rw [upd_ne hel]
            exact s7 _ _ (s56 _ _ h4e)
          · rw [upd_ne hcl.symm]
            exact s7 _ _ (s56 _ _ h4c)
          · rw [List.map_append]
            exact ((al6.mono (TS.same s7)).app (TpAll.one (Tp.new n2 (.cons (.int _) (.cons (.int _) .nil))))).mono tsl
          · rw [rs_append]
            exact G.app hlt hB hB' Bool.noConfusion trivial (fun init p hz => by
              have := congrArg List.length hz
              rw [List.length_append] at this
              simp [rs] at this) hf
        · subst hfr
          have hne : ¬ (init ++ [p] = []) := by simp
          rw [decide_eq_false hne]
          refine iteT ?_
          obtain ⟨ws, v, ev, alw, tv⟩ := TpAll.snoc_inv al6
          subst ev
          obtain ⟨sv, rfl, hsv⟩ := Tp.seg tv
          have hlen : ws.length = init.length := alw.len'
          have hbig : (rs (init ++ [p])).length ≤ 40 := Ok.len G.ok
          rw [rs, List.length_map, List.length_append] at hbig
          have hbig : init.length + 1 ≤ 40 := hbig
          refine ⟨_, rfl, 1, rfl, l, _, _, _, rfl, rfl, .inl (.inl h6l), atI_last _ _, sv, _, _, .int p.2, rfl, rfl, hsv, atI_nat (j := 1) rfl, _, rfl, rfl, _, rfl, ?_⟩
          by_cases hpe : p.2 = bAt E i
          · rw [decide_eq_true (show V.int p.2 = V.int (bAt E i) by rw [hpe])]
            refine iteT ?_
            -- found[-1] = (found[-1][0], high)
            refine ⟨_, rfl, 1, rfl, l, _, _, _, rfl, rfl, .inl (.inl h6l), atI_last _ _, sv, _, _, .int p.1, rfl, rfl, hsv, atI_nat (j := 0) rfl, _, rfl, line2 _ _, fun T2 n2 => ?_⟩
            have s7 : Same H6 (upd H6 T2 (.tup [.int p.1, .int (bAt E (i + 1))])) := same_new n2
            refine ⟨_, rfl, 1, rfl, l, _, _, ws.length, rfl, rfl, s7 _ _ h6l, by rw [List.length_append]; exact ix_last _, ?_⟩
            rw [set_last]
            have tsl := TS.lst (K := K) (o := .lst (ws ++ [.ref T2])) (s7 _ _ h6l)
            refine ⟨init ++ [(p.1, bAt E (i + 1))], _, m, m2, _, _, _, rfl, same_at ((s4.trans s56).trans s7) nl, ?_, ?_, upd_same, ?_, ?_, hm, up1, hm2, up2⟩
            · rw [upd_ne hel]
              exact s7 _ _ (s56 _ _ h4e)
            · rw [upd_ne hcl.symm]
              exact s7 _ _ (s56 _ _ h4c)
            · rw [List.map_append]
              exact ((alw.mono (TS.same s7)).app (TpAll.one (Tp.new n2 (.cons (.int _) (.cons (.int _) .nil))))).mono tsl
            · rw [rs_append]
              have G' := G
              rw [rs_append] at G'
              have e0 : rs [p] = [(p.1, bAt E i, true)] := by
                show [(p.1, p.2, true)] = _
                rw [hpe]
              rw [e0] at G'
              exact G'.merge hlt hB' hf
          · rw [decide_eq_false (show ¬ V.int p.2 = V.int (bAt E i) from fun z => hpe (V.int.inj z))]
            refine iteF ?_
            -- append
            refine ⟨.ref l, rfl, .inl ⟨rfl, _, .inl (.inl h6l)⟩, _, rfl, _, rfl, line2 _ _, fun T2 n2 => ?_⟩
            have s7 : Same H6 (upd H6 T2 (.tup [.int (bAt E i), .int (bAt E (i + 1))])) := same_new n2
            refine ⟨l, _, _, rfl, rfl, s7 _ _ h6l, small1000 (by rw [List.length_append]; show ws.length + 1 ≤ _; omega), ?_⟩
            have tsl := TS.lst (K := K) (o := .lst (ws ++ [.ref sv] ++ [.ref T2])) (s7 _ _ h6l)
            refine ⟨init ++ [p] ++ [(bAt E i, bAt E (i + 1))], _, m, m2, _, _, _, rfl, same_at ((s4.trans s56).trans s7) nl, ?_, ?_, upd_same, ?_, ?_, hm, up1, hm2, up2⟩
            · rw [upd_ne hel]
              exact s7 _ _ (s56 _ _ h4e)
            · rw [upd_ne hcl.symm]
              exact s7 _ _ (s56 _ _ h4c)
            · rw [List.map_append]
              exact ((al6.mono (TS.same s7)).app (TpAll.one (Tp.new n2 (.cons (.int _) (.cons (.int _) .nil))))).mono tsl
            · rw [rs_append]
              exact G.app hlt hB hB' Bool.noConfusion trivial (fun init' p' hz hc => by
                obtain ⟨i', q', h1, _, h3⟩ := rs_inv hz
                have h4 := List.append_inj' h1 rfl
                have h5 : p = q' := (List.cons.inj h4.2).1
                subst h5
                subst h3
                exact hpe hc.1) hf
    · rintro σ H3 ⟨fr, ys, at_, place, y7, y8, y9, rfl, s4, h4e, h4c, h4l, al, G, _⟩
      refine ⟨_, rfl, l, ys, rfl, .inl ⟨.inl (.inl h4l), fun p np => ?_⟩⟩
      have fin := G.fin fun x hx => by
        have z1 : rmem r1 x = false := val_after e1 (e_last hE hx)
        have z2 : rmem r2 x = false := val_after e2 (e_last hE hx)
        show false = kept k (rmem r1 x) (rmem r2 x)
        rw [z1, z2, kept_ff]
      exact q fr _ _ (s4.trans (same_new np)) G.ok fin (Tp.new np al)
end
end K4
/-! C4_Str: stretches_made, for any kind of inside and any inner function. -/
namespace K4
open PySem PySem.Spec PyProof.Rows L2

section
variable {A : Type} [DecidableEq A] {kd : Kd A} {s : Sx A} {K : PySem.W.Frag} {H : Hp} {σ : L2.St} {i a l : Nat} {p : Addr} {xs : List V} {at_ : Nat} {low : Int}
theorem map_ends {j : Nat} {q : Int × Int} (h : (s.map fun p => (p.1, p.2.1))[j]? = some q) : ∃ p, s[j]? = some p ∧ q = (p.1, p.2.1) := by
  rw [List.getElem?_map] at h
  obtain ⟨p, hp, e⟩ := Option.map_eq_some_iff.mp h
  exact ⟨p, hp, e.symm⟩
theorem ends_map {j : Nat} {p : Int × Int × A} (h : s[j]? = some p) : (s.map fun p => (p.1, p.2.1))[j]? = some (p.1, p.2.1) := by
  rw [List.getElem?_map, h]
  rfl
/-- one[at][2] if at < len(one) and one[at][0] <= low else () -/
theorem ptr_first {Ok' : A → Prop} {Q : VK} (ok : Ok kd.e Ok' s) (hp : σ[a]? = some (some (.ref p))) (hS : SqT K H p xs) (al : TpAll K H xs (s.map (strD kd.D))) (hi : σ[i]? = some (some (.int (at_ : Nat)))) (hl : σ[l]? = some (some (.int low)))
    (h1 : ∀ j q, j < at_ → (s.map fun p => (p.1, p.2.1))[j]? = some q → q.2 ≤ low) (h2 : ∀ q, (s.map fun p => (p.1, p.2.1))[at_]? = some q → low < q.2)
    (h : ∀ v H', Same H H' → Tp K H' v (kd.D (val kd.e s low)) → Q v H') :
    tIf (tAnd (tTest (tOp (rI0 fun i j => .bl (decide (i < j))) (tVar i) (tCB (fun xs H Q => ∃ p ys, xs = [.ref p] ∧ (SqL K H p ys ∨ SqT K H p ys) ∧ Q (.int ys.length) H) (tCons (tVar a) tNil))))
      (tTest (tOp (rI0 fun i j => .bl (decide (i ≤ j))) (tOp (rIxT K) (tOp (rIxT K) (tVar a) (tVar i)) (tC (.int 0))) (tVar l))))
      (tOp (rIxT K) (tOp (rIxT K) (tVar a) (tVar i)) (tC (.int 2))) (tTup tNil) σ H Q := by
  have pv := ptr_val ok (at_ := at_) (low := low) (fun j p hj hp => h1 j _ hj (ends_map hp)) fun p hp => h2 _ (ends_map hp)
  have empty : val kd.e s low = kd.e → tTup tNil σ H Q := fun e => by
    refine ⟨Nat.zero_le _, fun t nt => h _ _ (same_new nt) ?_⟩
    rw [e, kd.De]
    exact Tp.new nt .nil
  refine ptr_test (z := 0) (at_ := at_) (ps := s.map fun p => (p.1, p.2.1)) hp hS (ends_strs al) hi hl (fun _ => .inr ⟨rfl, rfl⟩) (fun q hq hc => ?_) (fun q hq hc => ?_) fun hn => ?_
  · obtain ⟨p', hp', e⟩ := map_ends hq
    subst e
    have hc : p'.1 ≤ low := hc
    obtain ⟨v, hv, tv⟩ := al.at' hp'
    obtain ⟨t, z, rfl, st, tz⟩ := Tp.str tv
    refine iteT ⟨_, hp, _, hi, p, xs, _, _, rfl, rfl, hS, atI_nat hv, _, _, _, _, rfl, rfl, st, atI_nat (j := 2) rfl, h _ _ (Same.refl _) ?_⟩
    rw [pv.1 p' hp' hc]
    exact tz
  · obtain ⟨p', hp', e⟩ := map_ends hq
    subst e
    exact iteF (empty (pv.2.1 p' hp' hc))
  · have hn' : s[at_]? = none := by
      rw [List.getElem?_map] at hn
      cases hz : s[at_]? with
      | none => rfl
      | some z =>
        rw [hz] at hn
        cases hn
    exact iteF (empty (pv.2.2 hn'))
end
/-- the promise of stretches_made, the inner function given at fI -/
def spStr {A : Type} (K : PySem.W.Frag) (D : A → PyData) (e : A) (Ok' : A → Prop) (R : Bool → A → A → A → Prop) (fI : Addr) : Sp := fun vs H Q _ => ∃ (v w : V) (s t : Sx A) (k : Bool), vs = [v, w, .str (wS k), .ref fI] ∧ Tp K H v (sxD D s) ∧ Tp K H w (sxD D t) ∧ Ok e Ok' s ∧ Ok e Ok' t ∧
  ∀ (u : Sx A) (H' : Hp) (x : V), Same H H' → Ok e Ok' u → (∀ z, R k (val e s z) (val e t z) (val e u z)) → Tp K H' x (sxD D u) → Q x H'
section
variable {P : Program} {w : World} {K : PySem.W.Frag} {mg : Str → Option Value} {base : Heap} {ax : Addr}
theorem scStr : FnScope ["one", "other", "word", "inner", "found", "at", "place", "ends", "low", "high", "first", "second", "inside"] ["one", "other", "word", "inner"] (defScope sStr) := ⟨rfl, rfl, rfl, by decide +kernel, rfl, by decide +kernel, by decide +kernel⟩
theorem ok_str {A : Type} [DecidableEq A] (kd : Kd A) {Ok' : A → Prop} {R : Bool → A → A → A → Prop} (hRe : ∀ k, R k kd.e kd.e kd.e) (hOe : Ok' kd.e) {f fE fI : Addr} {fd fdE fdI : FuncData} {kI : Nat} {psI : List Str} (hkI : 1 ≤ kI)
    (F : Fun K "stretches_made" "stretches_made" sStr f fd) (T : Txt K mg ax)
    (FE : Fun K "ends_of" "ends_of" sEndsOf fE fdE) (bE : Binds K fdE ["one", "other"] []) (gE : mg "ends_of" = some (.ref fE))
    (GI : FnOk P w K mg base CX0 kI fI fdI psI (spInner K kd.D Ok' R)) (kpI : PySem.W.keepIn K (.ref fI) = true) (bI : Binds K fdI psI []) :
    FnOk P w K mg base CX0 (kI + 1) f fd ["one", "other", "word", "inner"] (spStr K kd.D kd.e Ok' R fI) := by
  have GE : FnOk P w K mg base CX0 1 fE fdE ["one", "other"] (spEnds K) := ok_ends FE T
  refine F.ok scStr (fun vs H Q E h => ?_) (fun cdv A' outer s H vs Q E hr h => ?_)
  · obtain ⟨v, w', a, b, k, rfl, _⟩ := h
    rfl
  · obtain ⟨v1, v2, r1, r2, k, rfl, t1, t2, ok1, ok2, q⟩ := h
    obtain ⟨a1, xs1, rfl, hx1, al1⟩ := Tp.inv t1
    obtain ⟨a2, xs2, rfl, hx2, al2⟩ := Tp.inv t2
    have hu := hu_of hr
    have hr1 : Room 1 _ := hr.mono hkI
    refine ⟨_, pss_cons (ps_par3 (i := 4) (j := 5) (l := 6) rfl scStr.nd rfl rfl rfl (by decide) (by decide) (by decide) rfl rfl rfl (pa_cons (pe_lst pa_nil) (pa_cons pe_int (pa_cons pe_int pa_nil))) (by rfl))
      (pss_cons (ps_set (i := 7) scStr.nd rfl (.inl rfl) (pe_call GE hr1 (by rfl) gE FE.kp bE .nil pass0 (pa_cons (pv 0) (pa_cons (pv 1) pa_nil))))
      (pss_cons (ps_for PassesOwn.never rfl (pi_zip (by rfl) T.zip (pa_cons (pv 7) (pa_cons (pe_slice sl_list (pv 7) (po_some pe_int) po_none) pa_nil)))
          (pg_tup rfl (pgs_cons (pg_name (i := 8) scStr.nd rfl (.inl rfl)) (pgs_cons (pg_name (i := 9) scStr.nd rfl (.inl rfl)) pgs_nil)))
        (pss_cons (ps_while PassesOwn.never (PW.pt (pw_and (pt_cmpR op_lt (pv 5) (pe_callB call_len_seq (by rfl) T.len PySem.boot_len (pa_cons (pv 0) pa_nil)) (nomark _)) (pw_and1 (pt_cmpR op_le (pe_ix ix_tup (pe_ix ix_tup (pv 0) (pv 5) (fun _ _ => rfl)) pe_int (fun _ _ => rfl)) (pv 8) (nomark _)))))
            (pss_one (ps_aug (i := 5) scStr.nd rfl (.inl rfl) pe_int ip_add)))
        (pss_cons (ps_while PassesOwn.never (PW.pt (pw_and (pt_cmpR op_lt (pv 6) (pe_callB call_len_seq (by rfl) T.len PySem.boot_len (pa_cons (pv 1) pa_nil)) (nomark _)) (pw_and1 (pt_cmpR op_le (pe_ix ix_tup (pe_ix ix_tup (pv 1) (pv 6) (fun _ _ => rfl)) pe_int (fun _ _ => rfl)) (pv 8) (nomark _)))))
            (pss_one (ps_aug (i := 6) scStr.nd rfl (.inl rfl) pe_int ip_add)))
        (pss_cons (ps_set (i := 10) scStr.nd rfl (.inl rfl) (pe_ifExp (PW.pt (pw_and (pt_cmpR op_lt (pv 5) (pe_callB call_len_seq (by rfl) T.len PySem.boot_len (pa_cons (pv 0) pa_nil)) (nomark _)) (pw_and1 (pt_cmpR op_le (pe_ix ix_tup (pe_ix ix_tup (pv 0) (pv 5) (fun _ _ => rfl)) pe_int (fun _ _ => rfl)) (pv 8) (nomark _)))))
            (pe_ix ix_tup (pe_ix ix_tup (pv 0) (pv 5) (fun _ _ => rfl)) pe_int (fun _ _ => rfl)) (pe_tup pa_nil)))
        (pss_cons (ps_set (i := 11) scStr.nd rfl (.inl rfl) (pe_ifExp (PW.pt (pw_and (pt_cmpR op_lt (pv 6) (pe_callB call_len_seq (by rfl) T.len PySem.boot_len (pa_cons (pv 1) pa_nil)) (nomark _)) (pw_and1 (pt_cmpR op_le (pe_ix ix_tup (pe_ix ix_tup (pv 1) (pv 6) (fun _ _ => rfl)) pe_int (fun _ _ => rfl)) (pv 8) (nomark _)))))
            (pe_ix ix_tup (pe_ix ix_tup (pv 1) (pv 6) (fun _ _ => rfl)) pe_int (fun _ _ => rfl)) (pe_tup pa_nil)))
        (pss_cons (ps_set (i := 12) scStr.nd rfl (.inl rfl) (pe_callL (i := 3) GI hr rfl (.inl rfl) kpI bI .nil pass0 (pa_cons (pv 10) (pa_cons (pv 11) (pa_cons (pv 2) pa_nil)))))
        (pss_one (ps_if (pt_cmpR (op_neD hr.units) (pv 12) (pe_tup pa_nil) (nomark _))
          (pss_one (ps_if (PW.pt (pw_and (pt_cmpR (op_neD hr.units) (pv 4) (pe_lst pa_nil) (nomark _)) (pw_and (pt_cmpR op_eq (pe_ix ix_tup (pe_ix ix_list (pv 4) (pe_un un_neg pe_int) (fun _ _ => rfl)) pe_int (fun _ _ => rfl)) (pv 8) (nomark _))
              (pw_and1 (pt_cmpR (op_eqD hr.units) (pe_ix ix_tup (pe_ix ix_list (pv 4) (pe_un un_neg pe_int) (fun _ _ => rfl)) pe_int (fun _ _ => rfl)) (pv 12) (nomark _))))))
            (pss_one (ps_asg (pe_tup (pa_cons (pe_ix ix_tup (pe_ix ix_list (pv 4) (pe_un un_neg pe_int) (fun _ _ => rfl)) pe_int (fun _ _ => rfl)) (pa_cons (pv 9) (pa_cons (pv 12) pa_nil)))) (pg_sub (pv 4) (pe_un un_neg pe_int) set_list)))
            (pss_one (ps_expr (pe_bm PySem.F.plainAttrs_list PySem.F.slot_list_append PySem.F.type_list_append mt_append (pv 4) (pa_cons (pe_tup (pa_cons (pv 8) (pa_cons (pv 9) (pa_cons (pv 12) pa_nil)))) pa_nil))))))
          pss_nil))))))))
      (pss_one (ps_ret (pe_callTy call_tuple_of (by rfl) T.tuple (by decide +kernel) (pa_cons (pv 4) pa_nil)))))), ?_⟩
    -- found, at, place = [], 0, 0
    refine ⟨Nat.zero_le _, fun l nl => ⟨_, _, _, rfl, ?_⟩⟩
    have s1 : Same H (upd H l (.lst [])) := same_new nl
    have hn1 := Ok.len ok1
    have hn2 := Ok.len ok2
    have hb1 : ∀ p ∈ (r1.map fun p => (p.1, p.2.1)) ++ (r2.map fun p => (p.1, p.2.1)), Bd p.1 ∧ Bd p.2 := fun p hp => by
      rcases List.mem_append.mp hp with h | h
      · obtain ⟨q', hq, e⟩ := List.mem_map.mp h
        subst e
        exact (ok1.each q' hq).2.2.2
      · obtain ⟨q', hq, e⟩ := List.mem_map.mp h
        subst e
        exact (ok2.each q' hq).2.2.2
    -- ends = ends_of(one, other)
    refine ⟨_, rfl, _, rfl, a1, a2, xs1, xs2, _, rfl, same_seqT s1 hx1, same_seqT s1 hx2, paired_app (ends_strs (al1.mono (TS.same s1))) (ends_strs (al2.mono (TS.same s1))), hb1, by rw [List.length_append, List.length_map, List.length_map]; omega, fun E H2 e hE hmem s2 ne he => ?_⟩
    have hel : e ≠ l := fun z => by
      rw [z, upd_same] at ne
      cases ne
    have hl2 : H2 l = some (.lst []) := s2 _ _ upd_same
    have e1 : EndsIn r1 E := fun p hp => ⟨(hmem _).mpr ⟨_, List.mem_append_left _ (List.mem_map.mpr ⟨p, hp, rfl⟩), .inl rfl⟩, (hmem _).mpr ⟨_, List.mem_append_left _ (List.mem_map.mpr ⟨p, hp, rfl⟩), .inr rfl⟩⟩
    have e2 : EndsIn r2 E := fun p hp => ⟨(hmem _).mpr ⟨_, List.mem_append_right _ (List.mem_map.mpr ⟨p, hp, rfl⟩), .inl rfl⟩, (hmem _).mpr ⟨_, List.mem_append_right _ (List.mem_map.mpr ⟨p, hp, rfl⟩), .inr rfl⟩⟩
    have hbE : ∀ x ∈ E, Bd x := fun x hx => by
      obtain ⟨p, hp, z⟩ := (hmem x).mp hx
      rcases z with z | z
      · rw [z]; exact (hb1 p hp).1
      · rw [z]; exact (hb1 p hp).2
    -- zip(ends, ends[1:])
    refine ⟨.ref e, rfl, .ref e, rfl, 1, rfl, e, E.map V.int, rfl, .inl (.inl he), fun c nc => ?_⟩
    have hcut : cutV (E.map V.int) (some 1) none = (E.drop 1).map V.int := by rw [cut1, List.map_drop]
    rw [hcut]
    have hce : e ≠ c := ne_of_none he nc
    have hcl : l ≠ c := ne_of_none hl2 nc
    have s3 : Same H2 (upd H2 c (.lst ((E.drop 1).map V.int))) := same_new nc
    have s13 := (s1.trans s2).trans s3
    refine ⟨e, c, E.map V.int, _, rfl, .inl (.inl (s3 _ _ he)), .inl (.inl upd_same), ?_⟩
    refine for_it (walk_zip (K := K) (a := e) (b := c) (xs := E.map V.int) (ys := (E.drop 1).map V.int) (n := E.length - 1) (by rw [List.length_map, List.length_map, List.length_drop]; omega))
      (fun i σ H3 => ∃ (fr : Sx A) (ys : List V) (at_ place : Nat) (y8 y9 y10 y11 y12 : Option V), σ = [some (.ref a1), some (.ref a2), some (.str (wS k)), some (.ref fI), some (.ref l), some (.int (at_ : Nat)), some (.int (place : Nat)), some (.ref e), y8, y9, y10, y11, y12] ∧ Same H H3 ∧ H3 e = some (.lst (E.map V.int)) ∧ H3 c = some (.lst ((E.drop 1).map V.int)) ∧ H3 l = some (.lst ys) ∧ TpAll K H3 ys (fr.map (strD kd.D)) ∧
        Good kd.e Ok' (fun x b => R k (val kd.e r1 x) (val kd.e r2 x) b) (bAt E i) fr ∧ at_ ≤ r1.length ∧ (∀ j q, j < at_ → (r1.map fun p => (p.1, p.2.1))[j]? = some q → q.2 ≤ bAt E i) ∧ place ≤ r2.length ∧ ∀ j q, j < place → (r2.map fun p => (p.1, p.2.1))[j]? = some q → q.2 ≤ bAt E i)
      ⟨[], [], 0, 0, none, none, none, none, none, rfl, s13, s3 _ _ he, upd_same, s3 _ _ hl2, .nil, Good.start fun x hx => ?_, Nat.zero_le _, fun j q hj => (Nat.not_lt_zero _ hj).elim, Nat.zero_le _, fun j q hj => (Nat.not_lt_zero _ hj).elim⟩
      (fun i σ H3 _ ⟨_, _, _, _, _, _, _, _, _, _, _, h1, h2, _⟩ => ⟨.inl (.inl h1), .inl (.inl h2)⟩) ?_ ?_
    · have z1 : val kd.e r1 x = kd.e := val_before e1 (e_first hE hx)
      have z2 : val kd.e r2 x = kd.e := val_before e2 (e_first hE hx)
      show R k (val kd.e r1 x) (val kd.e r2 x) kd.e
      rw [z1, z2]
      exact hRe k
    · rintro i x σ H3 H4 hi ⟨fr, ys, at_, place, y8, y9, y10, y11, y12, rfl, s4, h4e, h4c, h4l, al, G, hat, hatb, hpl, hplb⟩ ⟨T', x1, x2, rfl, nT, rfl, f1, f2⟩
      have hi1 : i + 1 < E.length := by omega
      have hlt := bAt_lt hE hi1
      have ex1 : x1 = .int (bAt E i) := by
        have f1 : (E.map V.int)[i]? = some x1 := f1
        rw [List.getElem?_map, bAt_get (by omega)] at f1
        exact (Option.some.inj f1).symm
      have ex2 : x2 = .int (bAt E (i + 1)) := by
        have f2 : ((E.drop 1).map V.int)[i]? = some x2 := f2
        rw [List.getElem?_map, List.getElem?_drop, Nat.add_comm 1 i, bAt_get hi1] at f2
        exact (Option.some.inj f2).symm
      subst ex1 ex2
      have s5 : Same H3 (upd H3 T' (.tup [.int (bAt E i), .int (bAt E (i + 1))])) := same_new nT
      have s45 := s4.trans s5
      refine ⟨T', _, rfl, seqT_new, rfl, _, [_], rfl, _, [], rfl, rfl, ?_⟩
      -- while, while
      refine ptr_while (p := a1) (xs := xs1) (ps := r1.map fun p : Int × Int × A => (p.1, p.2.1)) (at_ := at_) (low := bAt E i) rfl (same_seqT s45 hx1) (ends_strs (al1.mono (TS.same s45))) rfl rfl (by decide) (by decide) (by rw [List.length_map]; exact hat) hatb fun m hm hmb hmlt => ?_
      refine ptr_while (p := a2) (xs := xs2) (ps := r2.map fun p : Int × Int × A => (p.1, p.2.1)) (at_ := place) (low := bAt E i) rfl (same_seqT s45 hx2) (ends_strs (al2.mono (TS.same s45))) rfl rfl (by decide) (by decide) (by rw [List.length_map]; exact hpl) hplb fun m2 hm2 hmb2 hmlt2 => ?_
      rw [List.length_map] at hm hm2
      -- first, second
      refine ptr_first (p := a1) (xs := xs1) (at_ := m) (low := bAt E i) ok1 rfl (same_seqT s45 hx1) (al1.mono (TS.same s45)) rfl rfl hmb hmlt fun v1 H5 s51 tv1 => ?_
      have s45' := s45.trans s51
      refine ptr_first (p := a2) (xs := xs2) (at_ := m2) (low := bAt E i) ok2 rfl (same_seqT s45' hx2) (al2.mono (TS.same s45')) rfl rfl hmb2 hmlt2 fun v2 H6 s52 tv2 => ?_
      have s46 := s45'.trans s52
      have po1 : Ok' (val kd.e r1 (bAt E i)) := by
        rcases val_P ok1 (bAt E i) with z | z
        · rw [z]; exact hOe
        · exact z
      have po2 : Ok' (val kd.e r2 (bAt E i)) := by
        rcases val_P ok2 (bAt E i) with z | z
        · rw [z]; exact hOe
        · exact z
      -- inside = inner(first, second, word)
      refine ⟨rfl, _, rfl, _, rfl, _, rfl, v1, v2, _, _, k, rfl, tv1.mono (TS.same s52), tv2, po1, po2, fun ci H7 vi s67 poc hR tvi => ?_⟩
      have s37 : Same H3 H7 := ((s5.trans s51).trans s52).trans s67
      have s47 := s4.trans s37
      have hf : ∀ x, bAt E i ≤ x → x < bAt E (i + 1) → R k (val kd.e r1 x) (val kd.e r2 x) ci := fun x h1 h2 => by
        rw [val_between e1 hE (bAt_get (by omega)) (bAt_get hi1) h1 h2, val_between e2 hE (bAt_get (by omega)) (bAt_get hi1) h1 h2]
        exact hR
      have up1 : ∀ j q, j < m → (r1.map fun p => (p.1, p.2.1))[j]? = some q → q.2 ≤ bAt E (i + 1) := fun j q h1 h2 => Int.le_trans (hmb j q h1 h2) (Int.le_of_lt hlt)
      have up2 : ∀ j q, j < m2 → (r2.map fun p => (p.1, p.2.1))[j]? = some q → q.2 ≤ bAt E (i + 1) := fun j q h1 h2 => Int.le_trans (hmb2 j q h1 h2) (Int.le_of_lt hlt)
      have hB := hbE _ (List.mem_of_getElem? (bAt_get (E := E) (i := i) (by omega)))
      have hB' := hbE _ (List.mem_of_getElem? (bAt_get (E := E) (i := i + 1) hi1))
      -- inside != ()
      refine ⟨_, rfl, Nat.zero_le _, fun n nn => ?_⟩
      have s78 : Same H7 (upd H7 n (.tup [])) := same_new nn
      refine ⟨_, _, (tvi.mono (TS.same s78)).dp, (Tp.new nn .nil).dp, kd.shaped ci, shaped_nil, _, rfl, ?_⟩
      have hnil : PyData.eqv (kd.D ci) (.tuple []) = decide (ci = kd.e) := by
        rw [← kd.De]
        exact kd.eqv ci kd.e
      rw [hnil]
      have s38 := s37.trans s78
      generalize hH8 : upd H7 n (.tup []) = H8 at *
      by_cases hci : ci = kd.e
      · rw [decide_eq_true hci]
        refine iteF ?_
        rw [hci] at hf
        exact ⟨fr, ys, m, m2, _, _, _, _, _, rfl, s4.trans s38, s38 _ _ h4e, s38 _ _ h4c, s38 _ _ h4l, al.mono (TS.same s38), G.skip hlt hf, hm, up1, hm2, up2⟩
      · rw [decide_eq_false hci]
        refine iteT ?_
        -- found != []
        refine ⟨.ref l, rfl, Nat.zero_le _, fun n2 nn2 => ?_⟩
        have s89 : Same H8 (upd H8 n2 (.lst [])) := same_new nn2
        have s39 := s38.trans s89
        have h6l := s39 _ _ h4l
        have al6 := al.mono (TS.same (K := K) s39)
        have tvi9 := (tvi.mono (TS.same (K := K) s78)).mono (TS.same (K := K) s89)
        have h6n : (upd H8 n2 (.lst [])) n2 = some (.lst []) := upd_same
        generalize hH9 : upd H8 n2 (.lst []) = H9 at *
        refine ⟨_, _, Dp.lst (.inl (.inl h6l)) al6.dp, Dp.lst (.inl (.inl h6n)) .nil, shaped_list (strD_lay kd.lay) (strD_dep kd.dep) (by have := kd.hn; omega) fr, shaped_lnil, _, rfl, ?_⟩
        rw [eqv_lnil]
        -- the append, whatever the reason
        have app : ∀ H10, Same H9 H10 → (∀ init p, fr = init ++ [p] → ¬ (p.2.1 = bAt E i ∧ p.2.2 = ci)) → ys.length ≤ 40 →
            tDrop (tBM K "list" rAppend (tVar 4) (tCons (tTup (tCons (tVar 8) (tCons (tVar 9) (tCons (tVar 12) tNil)))) tNil))
              { nx := fun σ H3 => ∃ (fr : Sx A) (ys : List V) (at_ place : Nat) (y8 y9 y10 y11 y12 : Option V), σ = [some (.ref a1), some (.ref a2), some (.str (wS k)), some (.ref fI), some (.ref l), some (.int (at_ : Nat)), some (.int (place : Nat)), some (.ref e), y8, y9, y10, y11, y12] ∧ Same H H3 ∧ H3 e = some (.lst (E.map V.int)) ∧ H3 c = some (.lst ((E.drop 1).map V.int)) ∧ H3 l = some (.lst ys) ∧ TpAll K H3 ys (fr.map (strD kd.D)) ∧
                  Good kd.e Ok' (fun x b => R k (val kd.e r1 x) (val kd.e r2 x) b) (bAt E (i + 1)) fr ∧ at_ ≤ r1.length ∧ (∀ j q, j < at_ → (r1.map fun p => (p.1, p.2.1))[j]? = some q → q.2 ≤ bAt E (i + 1)) ∧ place ≤ r2.length ∧ ∀ j q, j < place → (r2.map fun p => (p.1, p.2.1))[j]? = some q → q.2 ≤ bAt E (i + 1), rt := Q }
              [some (.ref a1), some (.ref a2), some (.str (wS k)), some (.ref fI), some (.ref l), some (.int (m : Nat)), some (.int (m2 : Nat)), some (.ref e), some (.int (bAt E i)), some (.int (bAt E (i + 1))), some v1, some v2, some vi] H10 := by
          intro H10 s910 hno hys
          have h7l := s910 _ _ h6l
          refine ⟨.ref l, rfl, .inl ⟨rfl, _, .inl (.inl h7l)⟩, _, rfl, _, rfl, _, rfl, line3 _ _ _, fun T2 n3 => ?_⟩
          have s1011 : Same H10 (upd H10 T2 (.tup [.int (bAt E i), .int (bAt E (i + 1)), vi])) := same_new n3
          have sAll := (s39.trans s910).trans s1011
          refine ⟨l, ys, _, rfl, rfl, s1011 _ _ h7l, small1000 (by omega), ?_⟩
          have tsl := TS.lst (K := K) (o := .lst (ys ++ [.ref T2])) (s1011 _ _ h7l)
          refine ⟨fr ++ [(bAt E i, bAt E (i + 1), ci)], _, m, m2, _, _, _, _, _, rfl, same_at (s4.trans sAll) nl, ?_, ?_, upd_same, ?_, ?_, hm, up1, hm2, up2⟩
          · rw [upd_ne hel]
            exact sAll _ _ h4e
          · rw [upd_ne hcl.symm]
            exact sAll _ _ h4c
          · rw [List.map_append]
            exact (((al6.mono (TS.same s910)).mono (TS.same s1011)).app (TpAll.one (Tp.new n3 (.cons (.int _) (.cons (.int _) (.cons (tvi9.mono (TS.same s910)) .nil)))))).mono tsl
          · exact G.app hlt hB hB' hci poc hno hf
        have hyl : ys.length = fr.length := al.len'
        have hfl := Ok.len G.ok
        rcases last_cases fr with hfr | ⟨init, p, hfr⟩
        · rw [decide_eq_true hfr]
          refine iteF (iteF ?_)
          exact app H9 (Same.refl _) (fun init p hz => by rw [hfr] at hz; simp at hz) (by omega)
        · have hne : ¬ (fr = []) := by rw [hfr]; simp
          rw [decide_eq_false hne]
          refine iteT ?_
          have al6' := al6
          rw [hfr] at al6'
          obtain ⟨ws, v, ev, alw, tv⟩ := TpAll.snoc_inv al6'
          obtain ⟨sv, zv, rfl, hsv, tzv⟩ := Tp.str tv
          have hlen : ws.length = init.length := alw.len'
          have h6l' := h6l
          rw [ev] at h6l'
          refine ⟨_, rfl, 1, rfl, l, _, _, _, rfl, rfl, .inl (.inl h6l'), atI_last _ _, sv, _, _, .int p.2.1, rfl, rfl, hsv, atI_nat (j := 1) rfl, _, rfl, rfl, _, rfl, ?_⟩
          by_cases hpe : p.2.1 = bAt E i
          · rw [decide_eq_true (show V.int p.2.1 = V.int (bAt E i) by rw [hpe])]
            refine iteT ?_
            -- found[-1][2] == inside
            refine ⟨_, rfl, 1, rfl, l, _, _, _, rfl, rfl, .inl (.inl h6l'), atI_last _ _, sv, _, _, zv, rfl, rfl, hsv, atI_nat (j := 2) rfl, _, rfl, _, _, tzv.dp, tvi9.dp, kd.shaped _, kd.shaped ci, _, rfl, ?_⟩
            rw [kd.eqv]
            by_cases hpi : p.2.2 = ci
            · rw [decide_eq_true hpi]
              refine iteT ?_
              -- found[-1] = (found[-1][0], high, inside)
              refine ⟨_, rfl, 1, rfl, l, _, _, _, rfl, rfl, .inl (.inl h6l'), atI_last _ _, sv, _, _, .int p.1, rfl, rfl, hsv, atI_nat (j := 0) rfl, _, rfl, _, rfl, line3 _ _ _, fun T2 n3 => ?_⟩
              have s7 : Same H9 (upd H9 T2 (.tup [.int p.1, .int (bAt E (i + 1)), vi])) := same_new n3
              refine ⟨_, rfl, 1, rfl, l, _, _, ws.length, rfl, rfl, s7 _ _ h6l', by rw [List.length_append]; exact ix_last _, ?_⟩
              rw [set_last]
              have tsl := TS.lst (K := K) (o := .lst (ws ++ [.ref T2])) (s7 _ _ h6l')
              have sAll := s39.trans s7
              refine ⟨init ++ [(p.1, bAt E (i + 1), ci)], _, m, m2, _, _, _, _, _, rfl, same_at (s4.trans sAll) nl, ?_, ?_, upd_same, ?_, ?_, hm, up1, hm2, up2⟩
              · rw [upd_ne hel]
                exact sAll _ _ h4e
              · rw [upd_ne hcl.symm]
                exact sAll _ _ h4c
              · rw [List.map_append]
                exact ((alw.mono (TS.same s7)).app (TpAll.one (Tp.new n3 (.cons (.int _) (.cons (.int _) (.cons tvi9 .nil)))))).mono tsl
              · have G' := G
                rw [hfr] at G'
                have e0 : p = (p.1, bAt E i, ci) := by
                  rw [← hpe, ← hpi]
                rw [e0] at G'
                exact G'.merge hlt hB' hf
            · rw [decide_eq_false hpi]
              refine iteF ?_
              exact app H9 (Same.refl _) (fun init' p' hz hc => by
                have h4 := List.append_inj' (hfr.symm.trans hz) rfl
                have h5 : p = p' := (List.cons.inj h4.2).1
                subst h5
                exact hpi hc.2) (by omega)
          · rw [decide_eq_false (show ¬ V.int p.2.1 = V.int (bAt E i) from fun z => hpe (V.int.inj z))]
            refine iteF (iteF ?_)
            exact app H9 (Same.refl _) (fun init' p' hz hc => by
              have h4 := List.append_inj' (hfr.symm.trans hz) rfl
              have h5 : p = p' := (List.cons.inj h4.2).1
              subst h5
              exact hpe hc.1) (by omega)
    · rintro σ H3 ⟨fr, ys, at_, place, y8, y9, y10, y11, y12, rfl, s4, h4e, h4c, h4l, al, G, _⟩
      refine ⟨_, rfl, l, ys, rfl, .inl ⟨.inl (.inl h4l), fun p np => ?_⟩⟩
      have fin := G.fin fun x hx => by
        have z1 : val kd.e r1 x = kd.e := val_after e1 (e_last hE hx)
        have z2 : val kd.e r2 x = kd.e := val_after e2 (e_last hE hx)
        show R k (val kd.e r1 x) (val kd.e r2 x) kd.e
        rw [z1, z2]
        exact hRe k
      exact q fr _ _ (s4.trans (same_new np)) G.ok fin (Tp.new np al)
end
end K4
/-! C5_Union: layers_made, union, meet, do_meet. -/
namespace K4
open PySem PySem.Spec PyProof.Rows L2

def LayR (k : Bool) (a b c : Layer) : Prop := ∀ y x, lmem c y x = kept k (lmem a y x) (lmem b y x)
theorem RowR.nil (k : Bool) : RowR k [] [] [] := fun x => (kept_ff k).symm
theorem LayR.nil (k : Bool) : LayR k [] [] [] := fun y x => (kept_ff k).symm
section
variable {P : Program} {w : World} {K : PySem.W.Frag} {mg : Str → Option Value} {base : Heap} {ax : Addr}
/-- what the sweep's defs are -/
structure Defs (K : PySem.W.Frag) (mg : Str → Option Value) (fE fK fR fS fL : Addr) (dE dK dR dS dL : FuncData) : Prop where
  FE : Fun K "ends_of" "ends_of" sEndsOf fE dE
  bE : Binds K dE ["one", "other"] []
  gE : mg "ends_of" = some (.ref fE)
  FK : Fun K "is_kept" "is_kept" sIsKept fK dK
  bK : Binds K dK ["word", "is_in", "is_other"] []
  gK : mg "is_kept" = some (.ref fK)
  FR : Fun K "rows_made" "rows_made" sRows fR dR
  bR : Binds K dR ["one", "other", "word"] []
  gR : mg "rows_made" = some (.ref fR)
  FS : Fun K "stretches_made" "stretches_made" sStr fS dS
  bS : Binds K dS ["one", "other", "word", "inner"] []
  gS : mg "stretches_made" = some (.ref fS)
  FL : Fun K "layers_made" "layers_made" sLayers fL dL
  bL : Binds K dL ["one", "other", "word"] []
  gL : mg "layers_made" = some (.ref fL)
variable {fE fK fR fS fL : Addr} {dE dK dR dS dL : FuncData}
theorem Defs.rows (D : Defs K mg fE fK fR fS fL dE dK dR dS dL) (T : Txt K mg ax) : FnOk P w K mg base CX0 2 fR dR ["one", "other", "word"] (spInner K rowD RowOk RowR) := ok_rows D.FR T D.FE D.bE D.gE D.FK D.bK D.gK
theorem Defs.str1 (D : Defs K mg fE fK fR fS fL dE dK dR dS dL) (T : Txt K mg ax) : FnOk P w K mg base CX0 3 fS dS ["one", "other", "word", "inner"] (spStr K rowD ([] : Row) RowOk RowR fR) :=
  ok_str rowK RowR.nil RowOk.nil (by decide) D.FS T D.FE D.bE D.gE (D.rows T) D.FR.kp D.bR
theorem scLayers : FnScope ["one", "other", "word"] ["one", "other", "word"] (defScope sLayers) := ⟨rfl, rfl, rfl, by decide +kernel, rfl, by decide +kernel, by decide +kernel⟩
theorem Defs.layers (D : Defs K mg fE fK fR fS fL dE dK dR dS dL) (T : Txt K mg ax) : FnOk P w K mg base CX0 4 fL dL ["one", "other", "word"] (spInner K layD LayOk LayR) := by
  refine D.FL.ok scLayers (fun vs H Q E h => ?_) (fun cdv A outer s H vs Q E hr h => ?_)
  · obtain ⟨v, w', a, b, k, rfl, _⟩ := h
    rfl
  · obtain ⟨v1, v2, l1, l2, k, rfl, t1, t2, ok1, ok2, q⟩ := h
    refine ⟨_, pss_one (ps_ret (pe_call (D.str1 T) hr (by rfl) D.gS D.FS.kp D.bS .nil pass0 (pa_cons (pv 0) (pa_cons (pv 1) (pa_cons (pv 2) (pa_cons (pe_glob (v := .ref fR) (by rfl) D.gR rfl) pa_nil)))))), ?_⟩
    exact ⟨_, rfl, _, rfl, _, rfl, v1, v2, l1, l2, k, rfl, t1, t2, ok1, ok2, fun u H' x sm hok hR ht => q u H' x sm hok hR ht⟩
theorem Defs.str2 (D : Defs K mg fE fK fR fS fL dE dK dR dS dL) (T : Txt K mg ax) : FnOk P w K mg base CX0 5 fS dS ["one", "other", "word", "inner"] (spStr K layD ([] : Layer) LayOk LayR fL) :=
  ok_str layK LayR.nil LayOk.nil (by decide) D.FS T D.FE D.bE D.gE (D.layers T) D.FL.kp D.bL
/-! ### union, meet -/
def spUnion (K : PySem.W.Frag) : Sp := fun vs H Q _ => ∃ (v w : V) (s t : Sol), vs = [v, w] ∧ Tp K H v (solD s) ∧ Tp K H w (solD t) ∧ SolOk s ∧ SolOk t ∧
  ∀ (u : Sol) (H' : Hp) (x : V), Same H H' → SolOk u → (∀ q, pm u q ↔ pm s q ∨ pm t q) → Tp K H' x (solD u) → Q x H'
def spMeet (K : PySem.W.Frag) : Sp := fun vs H Q _ => ∃ (v w : V) (s t : Sol), vs = [v, w] ∧ Tp K H v (solD s) ∧ Tp K H w (solD t) ∧ SolOk s ∧ SolOk t ∧
  ∀ (u : Sol) (H' : Hp) (x : V), Same H H' → SolOk u → (∀ q, pm u q ↔ pm s q ∧ pm t q) → Tp K H' x (solD u) → Q x H'
theorem scUnion : FnScope ["one", "other"] ["one", "other"] (defScope sUnion) := ⟨rfl, rfl, rfl, by decide +kernel, rfl, by decide +kernel, by decide +kernel⟩
theorem ok_union {f : Addr} {fd : FuncData} (F : Fun K "union" "union" sUnion f fd) (D : Defs K mg fE fK fR fS fL dE dK dR dS dL) (T : Txt K mg ax) : FnOk P w K mg base CX0 6 f fd ["one", "other"] (spUnion K) := by
  refine F.ok scUnion (fun vs H Q E h => ?_) (fun cdv A outer s H vs Q E hr h => ?_)
  · obtain ⟨v, w', a, b, rfl, _⟩ := h
    rfl
  · obtain ⟨v1, v2, l1, l2, rfl, t1, t2, ok1, ok2, q⟩ := h
    refine ⟨_, pss_one (ps_ret (pe_call (D.str2 T) hr (by rfl) D.gS D.FS.kp D.bS .nil pass0 (pa_cons (pv 0) (pa_cons (pv 1) (pa_cons pe_str (pa_cons (pe_glob (v := .ref fL) (by rfl) D.gL rfl) pa_nil)))))), ?_⟩
    refine ⟨_, rfl, _, rfl, v1, v2, l1, l2, true, rfl, t1, t2, ok1, ok2, fun u H' x sm hok hR ht => q u H' x sm hok (fun p => ?_) ht⟩
    have e : smem u p.2.2 p.2.1 p.1 = kept true (smem l1 p.2.2 p.2.1 p.1) (smem l2 p.2.2 p.2.1 p.1) := hR p.2.2 p.2.1 p.1
    show smem u p.2.2 p.2.1 p.1 = true ↔ smem l1 p.2.2 p.2.1 p.1 = true ∨ smem l2 p.2.2 p.2.1 p.1 = true
    rw [e]
    unfold kept
    simp
theorem scMeet : FnScope ["one", "other"] ["one", "other"] (defScope sMeet) := ⟨rfl, rfl, rfl, by decide +kernel, rfl, by decide +kernel, by decide +kernel⟩
theorem ok_meet {f : Addr} {fd : FuncData} (F : Fun K "meet" "meet" sMeet f fd) (D : Defs K mg fE fK fR fS fL dE dK dR dS dL) (T : Txt K mg ax) : FnOk P w K mg base CX0 6 f fd ["one", "other"] (spMeet K) := by
  refine F.ok scMeet (fun vs H Q E h => ?_) (fun cdv A outer s H vs Q E hr h => ?_)
  · obtain ⟨v, w', a, b, rfl, _⟩ := h
    rfl
  · obtain ⟨v1, v2, l1, l2, rfl, t1, t2, ok1, ok2, q⟩ := h
    refine ⟨_, pss_one (ps_ret (pe_call (D.str2 T) hr (by rfl) D.gS D.FS.kp D.bS .nil pass0 (pa_cons (pv 0) (pa_cons (pv 1) (pa_cons pe_str (pa_cons (pe_glob (v := .ref fL) (by rfl) D.gL rfl) pa_nil)))))), ?_⟩
    refine ⟨_, rfl, _, rfl, v1, v2, l1, l2, false, rfl, t1, t2, ok1, ok2, fun u H' x sm hok hR ht => q u H' x sm hok (fun p => ?_) ht⟩
    have e : smem u p.2.2 p.2.1 p.1 = kept false (smem l1 p.2.2 p.2.1 p.1) (smem l2 p.2.2 p.2.1 p.1) := hR p.2.2 p.2.1 p.1
    show smem u p.2.2 p.2.1 p.1 = true ↔ smem l1 p.2.2 p.2.1 p.1 = true ∧ smem l2 p.2.2 p.2.1 p.1 = true
    rw [e]
    unfold kept
    simp
/-! ### do_meet -/
def spDoMeet (K : PySem.W.Frag) : Sp := fun vs H Q _ => ∃ (v w : V) (s t : Sol), vs = [v, w] ∧ Tp K H v (solD s) ∧ Tp K H w (solD t) ∧ SolOk s ∧ SolOk t ∧
  ∀ (b : Bool) (H' : Hp), Same H H' → (b = true ↔ ∃ q, pm s q ∧ pm t q) → Q (.bl b) H'
theorem scDoMeet : FnScope ["one", "other"] ["one", "other"] (defScope sDoMeet) := ⟨rfl, rfl, rfl, by decide +kernel, rfl, by decide +kernel, by decide +kernel⟩
theorem ok_doMeet {f fM : Addr} {fd fdM : FuncData} (F : Fun K "do_meet" "do_meet" sDoMeet f fd) (FM : Fun K "meet" "meet" sMeet fM fdM) (bM : Binds K fdM ["one", "other"] []) (gM : mg "meet" = some (.ref fM))
    (D : Defs K mg fE fK fR fS fL dE dK dR dS dL) (T : Txt K mg ax) : FnOk P w K mg base CX0 7 f fd ["one", "other"] (spDoMeet K) := by
  refine F.ok scDoMeet (fun vs H Q E h => ?_) (fun cdv A outer s H vs Q E hr h => ?_)
  · obtain ⟨v, w', a, b, rfl, _⟩ := h
    rfl
  · obtain ⟨v1, v2, l1, l2, rfl, t1, t2, ok1, ok2, q⟩ := h
    refine ⟨_, pss_one (ps_ret (pe_cmpR (op_neD hr.units) (pe_call (ok_meet FM D T) hr (by rfl) gM FM.kp bM .nil pass0 (pa_cons (pv 0) (pa_cons (pv 1) pa_nil))) (pe_tup pa_nil) (nomark _))), ?_⟩
    refine ⟨_, rfl, _, rfl, v1, v2, l1, l2, rfl, t1, t2, ok1, ok2, fun u H' x sm hok hR ht => ⟨Nat.zero_le _, fun n nn => ?_⟩⟩
    have s2 : Same H' (upd H' n (.tup [])) := same_new nn
    refine ⟨_, _, (ht.mono (TS.same s2)).dp, (Tp.new nn .nil).dp, solK.shaped u, shaped_nil, q _ _ (sm.trans s2) ?_⟩
    have hnil : PyData.eqv (solD u) (.tuple []) = decide (u = []) := by
      show PyData.eqv (.tuple (u.map (strD layD))) (.tuple []) = _
      exact eqv_tnil u
    show (!PyData.eqv (solD u) (.tuple [])) = true ↔ _
    rw [hnil]
    constructor
    · intro hne
      have hne : u ≠ [] := by simpa using hne
      obtain ⟨z, y, x', hz⟩ := sol_some hok hne
      exact ⟨(x', y, z), (hR (x', y, z)).mp hz⟩
    · rintro ⟨p, h1, h2⟩
      have h3 := (hR p).mpr ⟨h1, h2⟩
      have hne : u ≠ [] := fun e => by
        rw [e] at h3
        exact Bool.noConfusion (show false = true from h3)
      simpa using hne
end
end K4
/-! C6_UnionOf: union_of. -/
namespace K4
open PySem PySem.Spec PyProof.Rows L2

theorem anyTake {L : List Sol} {n : Nat} {s : Sol} {p : Sol → Prop} (h : L[n]? = some s) : (∃ u ∈ L.take (n + 1), p u) ↔ (∃ u ∈ L.take n, p u) ∨ p s := by
  rw [List.take_add_one, h]
  constructor
  · rintro ⟨u, hu, hp⟩
    rcases List.mem_append.mp hu with hu | hu
    · exact .inl ⟨u, hu, hp⟩
    · have e : u = s := by simpa using hu
      exact .inr (e ▸ hp)
  · rintro (⟨u, hu, hp⟩ | hp)
    · exact ⟨u, List.mem_append_left _ hu, hp⟩
    · exact ⟨s, List.mem_append_right _ (by simp), hp⟩
section
variable {P : Program} {w : World} {K : PySem.W.Frag} {mg : Str → Option Value} {base : Heap} {ax : Addr}
variable {fE fK fR fS fL : Addr} {dE dK dR dS dL : FuncData}
def spUnionOf (K : PySem.W.Frag) : Sp := fun vs H Q _ => ∃ (a : Addr) (xs : List V) (ss : List Sol), vs = [.ref a] ∧ SqL K H a xs ∧ TpAll K H xs (ss.map solD) ∧ (∀ s ∈ ss, SolOk s) ∧ ss.length ≤ 10000 ∧
  ∀ (u : Sol) (H' : Hp) (x : V), Same H H' → SolOk u → (∀ q, pm u q ↔ ∃ s ∈ ss, pm s q) → Tp K H' x (solD u) → Q x H'
theorem cut_from (xs : List V) (n : Nat) : cutV xs (some (n : Int)) none = xs.drop n := by
  unfold cutV
  rw [show HT.sIx xs.length 0 (some (n : Int)) = min n xs.length from HT.sIx_nat xs.length 0 n, HT.sIx_none]
  by_cases h : n ≤ xs.length
  · rw [Nat.min_eq_left h]
    exact List.take_of_length_le (by rw [List.length_drop]; exact Nat.le_refl _)
  · rw [Nat.min_eq_right (by omega), Nat.sub_self, List.drop_eq_nil_of_le (show xs.length ≤ n by omega), List.take_zero]
theorem line10k {n : Nat} (h : n ≤ 10000) : n < sizeLine := Nat.lt_of_le_of_lt h (by decide)
theorem scUnionOf : FnScope ["solids", "left", "pairs", "one", "other"] ["solids"] (defScope sUnionOf) := ⟨rfl, rfl, rfl, by decide +kernel, rfl, by decide +kernel, by decide +kernel⟩
theorem ok_unionOf {f fU : Addr} {fd fdU : FuncData} (F : Fun K "union_of" "union_of" sUnionOf f fd) (FU : Fun K "union" "union" sUnion fU fdU) (bU : Binds K fdU ["one", "other"] []) (gU : mg "union" = some (.ref fU))
    (D : Defs K mg fE fK fR fS fL dE dK dR dS dL) (T : Txt K mg ax) : FnOk P w K mg base CX0 7 f fd ["solids"] (spUnionOf K) := by
  have GU : FnOk P w K mg base CX0 6 fU fdU ["one", "other"] (spUnion K) := ok_union FU D T
  refine F.ok scUnionOf (fun vs H Q E h => ?_) (fun cdv A outer s H vs Q E hr h => ?_)
  · obtain ⟨a, xs, ss, rfl, _⟩ := h
    rfl
  · obtain ⟨a, xs, ss, rfl, hx, al, hok, hlen, q⟩ := h
    refine ⟨_, pss_cons (ps_set (i := 1) scUnionOf.nd rfl (.inl rfl) (pe_callTy call_list_of (by rfl) T.list (by decide +kernel) (pa_cons (pv 0) pa_nil)))
      (pss_cons (ps_while PassesOwn.never (pt_cmpR op_gt (pe_callB call_len_seq (by rfl) T.len PySem.boot_len (pa_cons (pv 1) pa_nil)) pe_int (nomark _))
        (pss_cons (ps_setLc (i := 2) (own := [("one", 3), ("other", 4)]) (g := gTup K 2 (gCons (gName 3) (gCons (gName 4) gNil))) (tt := tYes) rfl scUnionOf.nd rfl rfl (sw_true rfl rfl rfl (by decide +kernel))
            (pi_zip (by rfl) T.zip (pa_cons (pe_step0 (pv 1)) (pa_cons (pe_step1 (pv 1)) pa_nil))) (blkOk_by (N := ["solids", "left", "pairs", "one", "other"]) (sc := defScope sUnionOf) (by decide +kernel))
            (fun _ _ _ _ _ => pg_tup rfl (pgs_cons (pg_name (i := 3) scUnionOf.nd rfl (.inl rfl)) (pgs_cons (pg_name (i := 4) scUnionOf.nd rfl (.inl rfl)) pgs_nil))) (fun _ _ _ _ _ => pts_nil)
            (fun _ _ _ _ _ => pe_call GU hr (by rfl) gU FU.kp bU .nil pass0 (pa_cons (pv 3) (pa_cons (pv 4) pa_nil))))
        (pss_one (ps_set (i := 1) scUnionOf.nd rfl (.inl rfl) (pe_op op_cat (pv 2) (pe_slice sl_list (pv 1) (po_some (pe_op op_mul (pe_op op_fdiv (pe_callB call_len_seq (by rfl) T.len PySem.boot_len (pa_cons (pv 1) pa_nil)) pe_int) pe_int)) po_none))))))
      (pss_one (ps_ret (pe_ifExp (pt_cmpR (op_neD hr.units) (pv 1) (pe_lst pa_nil) (nomark _)) (pe_ix ix_list (pv 1) pe_int (fun _ _ => rfl)) (pe_tup pa_nil))))), ?_⟩
    -- left = list(solids)
    refine ⟨.ref a, rfl, a, xs, rfl, .inl hx, fun l0 nl0 => ?_⟩
    have s1 : Same H (upd H l0 (.lst xs)) := same_new nl0
    refine ⟨fun m σ H1 => ∃ (L : List Sol) (l : Addr) (ys : List V) (y2 : Option V), σ = [some (.ref a), some (.ref l), y2, none, none] ∧ Same H H1 ∧ H1 l = some (.lst ys) ∧ TpAll K H1 ys (L.map solD) ∧ (∀ s ∈ L, SolOk s) ∧ L.length ≤ 10000 ∧ m = L.length ∧ ∀ q, (∃ s ∈ L, pm s q) ↔ ∃ s ∈ ss, pm s q,
      ⟨_, ss, l0, xs, none, rfl, s1, upd_same, al.mono (TS.same s1), hok, hlen, rfl, fun q => Iff.rfl⟩, ?_⟩
    rintro m σ H1 ⟨L, l, ys, y2, rfl, sH, hl, al1, ok1, len1, rfl, sem1⟩
    have hyl : ys.length = L.length := al1.len'
    refine ⟨.ref l, rfl, l, ys, rfl, .inl (.inl (.inl hl)), _, _, rfl, rfl, _, rfl, ite2 (fun e => ?_) (fun e => ?_)⟩
    · have h2 : (1 : Int) < (ys.length : Int) := of_decide_eq_true e
      refine ⟨fun σ' H' => ∃ (L' : List Sol) (l' : Addr) (ys' : List V) (y2' : Option V), σ' = [some (.ref a), some (.ref l'), y2', none, none] ∧ Same H H' ∧ H' l' = some (.lst ys') ∧ TpAll K H' ys' (L'.map solD) ∧ (∀ s ∈ L', SolOk s) ∧ L'.length < L.length ∧ ∀ q, (∃ s ∈ L', pm s q) ↔ ∃ s ∈ ss, pm s q,
        fun σ' H' ⟨L', l', ys', y2', g1, g2, g3, g4, g5, g6, g7⟩ => ⟨L'.length, g6, L', l', ys', y2', g1, g2, g3, g4, g5, by omega, rfl, g7⟩, ?_⟩
      -- left[::2], left[1::2]
      refine ⟨.ref l, rfl, l, ys, rfl, .inl (.inl hl), fun p1 np1 => ?_⟩
      have s2 : Same H1 (upd H1 p1 (.lst (everyTwo (ys.drop 0)))) := same_new np1
      refine ⟨.ref l, rfl, l, ys, rfl, .inl (.inl (s2 _ _ hl)), fun p2 np2 => ?_⟩
      have s3 : Same (upd H1 p1 (.lst (everyTwo (ys.drop 0)))) (upd (upd H1 p1 (.lst (everyTwo (ys.drop 0)))) p2 (.lst (everyTwo (ys.drop 1)))) := same_new np2
      have hp1 := s3 p1 (.lst (everyTwo (ys.drop 0))) upd_same
      have hp2 : (upd (upd H1 p1 (.lst (everyTwo (ys.drop 0)))) p2 (.lst (everyTwo (ys.drop 1)))) p2 = some (.lst (everyTwo (ys.drop 1))) := upd_same
      have s13 := s2.trans s3
      generalize hH3 : upd (upd H1 p1 (.lst (everyTwo (ys.drop 0)))) p2 (.lst (everyTwo (ys.drop 1))) = H3 at *
      refine ⟨p1, p2, _, _, rfl, .inl (.inl hp1), .inl (.inl hp2), fun D nD => ?_⟩
      have sD : Same H3 (upd H3 D (.lst [])) := same_new nD
      refine lc_it (walk_zip (K := K) (a := p1) (b := p2) (xs := everyTwo (ys.drop 0)) (ys := everyTwo (ys.drop 1)) (n := L.length / 2) (by rw [everyTwo_len, everyTwo_len, List.length_drop, List.length_drop]; omega))
        (fun j H5 => ∃ (us : List Sol) (zs : List V), H5 D = some (.lst zs) ∧ Same H3 H5 ∧ us.length = j ∧ TpAll K H5 zs (us.map solD) ∧ (∀ u ∈ us, SolOk u) ∧ ∀ q, (∃ u ∈ us, pm u q) ↔ ∃ s ∈ L.take (2 * j), pm s q)
        ⟨[], [], upd_same, sD, rfl, .nil, fun u hu => (nomatch hu), fun q => by simp⟩ (fun j H5 _ ⟨_, _, _, h1, _⟩ => ⟨.inl (.inl (h1 _ _ hp1)), .inl (.inl (h1 _ _ hp2))⟩) ?_ ?_
      · rintro j x H5 H6 hj ⟨us, zs, hD, s35, hul, alz, oku, semu⟩ ⟨T', x1, x2, rfl, nT, rfl, f1, f2⟩
        have f1 : (everyTwo (ys.drop 0))[j]? = some x1 := f1
        have f2 : (everyTwo (ys.drop 1))[j]? = some x2 := f2
        rw [everyTwo_get, List.drop_zero] at f1
        rw [everyTwo_get, List.getElem?_drop, Nat.add_comm] at f2
        obtain ⟨s1', hs1, t1⟩ := al1.of' f1
        obtain ⟨s2', hs2, t2⟩ := al1.of' f2
        have sT : Same H5 (upd H5 T' (.tup [x1, x2])) := same_new nT
        have s15 := (s13.trans s35).trans sT
        refine ⟨T', _, rfl, seqT_new, rfl, _, [_], rfl, _, [], rfl, rfl, rfl, ?_⟩
        refine ⟨_, rfl, _, rfl, x1, x2, s1', s2', rfl, t1.mono (TS.same s15), t2.mono (TS.same s15), ok1 _ (List.mem_of_getElem? hs1), ok1 _ (List.mem_of_getElem? hs2), fun u H7 x sm huok husem ht => ?_⟩
        have hD7 := sm _ _ (sT _ _ hD)
        refine ⟨zs, hD7, line10k (by have := alz.len'; omega), us ++ [u], _, upd_same, ?_, by rw [List.length_append, hul]; rfl, ?_, ?_, fun q => ?_⟩
        · exact fun b o e => by
            rw [upd_ne (ne_of_none e nD)]
            exact sm _ _ (sT _ _ (s35 _ _ e))
        · rw [List.map_append]
          exact (((alz.mono (TS.same sT)).mono (TS.same sm)).app (TpAll.one ht)).mono (TS.lst hD7)
        · intro u' hu'
          rcases List.mem_append.mp hu' with h | h
          · exact oku u' h
          · rw [List.mem_singleton.mp h]
            exact huok
        · have e2 : 2 * (j + 1) = 2 * j + 1 + 1 := by omega
          rw [e2, anyTake hs2, anyTake hs1, ← semu q]
          constructor
          · rintro ⟨u', hu', hp⟩
            rcases List.mem_append.mp hu' with h | h
            · exact .inl (.inl ⟨u', h, hp⟩)
            · rw [List.mem_singleton.mp h] at hp
              rcases (husem q).mp hp with hp | hp
              · exact .inl (.inr hp)
              · exact .inr hp
          · rintro ((⟨u', h, hp⟩ | hp) | hp)
            · exact ⟨u', List.mem_append_left _ h, hp⟩
            · exact ⟨u, List.mem_append_right _ (by simp), (husem q).mpr (.inl hp)⟩
            · exact ⟨u, List.mem_append_right _ (by simp), (husem q).mpr (.inr hp)⟩
      · rintro H5 ⟨us, zs, hD, s35, hul, alz, oku, semu⟩
        have s15 := s13.trans s35
        have hl5 := s15 _ _ hl
        -- pairs + left[len(left) // 2 * 2:]
        refine ⟨_, rfl, .ref l, rfl, .ref l, rfl, l, ys, rfl, .inl (.inl (.inl hl5)), _, _, rfl, rfl, ⟨by decide, by decide⟩, _, _, rfl, rfl, .inr ⟨by decide, by decide⟩, _, rfl, l, ys, rfl, .inl (.inl hl5), fun c nc => ?_⟩
        have ec : cutV ys (some ((ys.length : Int) / 2 * 2)) none = ys.drop (2 * (L.length / 2)) := by
          have e1 : ((ys.length : Int) / 2 * 2) = ((2 * (L.length / 2) : Nat) : Int) := by omega
          rw [e1, cut_from]
        rw [ec]
        have sc : Same H5 (upd H5 c (.lst (ys.drop (2 * (L.length / 2))))) := same_new nc
        refine ⟨D, c, zs, _, rfl, rfl, sc _ _ hD, upd_same, ?_, fun r nr => ?_⟩
        · have := alz.len'
          rw [List.length_drop]
          exact Nat.le_of_lt (line10k (by omega))
        have sr := same_new (o := .lst (zs ++ ys.drop (2 * (L.length / 2)))) nr
        refine ⟨us ++ L.drop (2 * (L.length / 2)), r, _, _, rfl, ((sH.trans s15).trans sc).trans sr, upd_same, ?_, ?_, ?_, fun q => ?_⟩
        · rw [List.map_append, List.map_drop]
          exact (((alz.mono (TS.same sc)).mono (TS.same sr)).app ((((al1.mono (TS.same s15)).mono (TS.same sc)).mono (TS.same sr)).drop _))
        · intro u' hu'
          rcases List.mem_append.mp hu' with h | h
          · exact oku u' h
          · exact ok1 u' (List.mem_of_mem_drop h)
        · rw [List.length_append, List.length_drop]
          omega
        · rw [← sem1 q]
          constructor
          · rintro ⟨u', hu', hp⟩
            rcases List.mem_append.mp hu' with h | h
            · obtain ⟨s', h1, h2⟩ := (semu q).mp ⟨u', h, hp⟩
              exact ⟨s', List.mem_of_mem_take h1, h2⟩
            · exact ⟨u', List.mem_of_mem_drop h, hp⟩
          · rintro ⟨s', hs', hp⟩
            rw [← List.take_append_drop (2 * (L.length / 2)) L] at hs'
            rcases List.mem_append.mp hs' with h | h
            · obtain ⟨u', h1, h2⟩ := (semu q).mpr ⟨s', h, hp⟩
              exact ⟨u', List.mem_append_left _ h1, h2⟩
            · exact ⟨s', List.mem_append_right _ h, hp⟩
    · have h2 : ¬ (1 : Int) < (ys.length : Int) := fun z => e (decide_eq_true z)
      -- left[0] if left != [] else ()
      refine ⟨.ref l, rfl, Nat.zero_le _, fun n nn => ?_⟩
      have sn : Same H1 (upd H1 n (.lst [])) := same_new nn
      refine ⟨_, _, Dp.lst (.inl (.inl (sn _ _ hl))) (al1.mono (TS.same sn)).dp, Dp.lst (.inl (.inl upd_same)) .nil, shaped_list solK.lay solK.dep (by decide) L, shaped_lnil, _, rfl, ?_⟩
      rw [eqv_lnil]
      cases L with
      | nil =>
        refine iteF ⟨Nat.zero_le _, fun t nt => ?_⟩
        refine q [] _ _ ((sH.trans sn).trans (same_new nt)) SolOk.nil (fun p => ?_) (Tp.new nt .nil)
        rw [← sem1 p]
        exact ⟨fun z => Bool.noConfusion (show false = true from z), fun ⟨s, hs, _⟩ => (nomatch hs)⟩
      | cons s r =>
        have hr0 : r = [] := by
          cases r with
          | nil => rfl
          | cons s' r' =>
            rw [List.length_cons, List.length_cons] at hyl
            omega
        subst hr0
        obtain ⟨v, hv, tv⟩ := al1.at' (i := 0) (x := s) rfl
        refine iteT ⟨.ref l, rfl, l, ys, 0, v, rfl, rfl, .inl (.inl (sn _ _ hl)), atI_nat (j := 0) hv, ?_⟩
        refine q s _ _ (sH.trans sn) (ok1 s List.mem_cons_self) (fun p => ?_) (tv.mono (TS.same sn))
        rw [← sem1 p]
        exact ⟨fun z => ⟨s, List.mem_cons_self, z⟩, fun ⟨s', hs', z⟩ => by rw [List.mem_singleton.mp hs'] at z; exact z⟩
end
end K4
/-! C7_Boxes: box, boxes_of, of_boxes, volume. -/
namespace K4
open PySem PySem.Spec PyProof.Rows L2

theorem line1 (a : V) : [a].length ≤ sizeLine := by
  show 1 ≤ sizeLine
  decide
/-- subscripts within a comprehension's block: the written part named -/
theorem ix_tupK {X : Cx} (K : PySem.W.Frag) (h : X.K = K := by rfl) : IxR X (rIxT K) := by
  subst h
  exact ix_tup
/-- a comprehension over the three axes -/
theorem lc_axes {K : PySem.W.Frag} {ax : Addr} (axT : ∀ H, SqT K H ax [.int 0, .int 1, .int 2]) {te : TE} {j : Nat} {σ : L2.St} {H1 : Hp} {D : Addr} {Qd : Hp → Prop} (y0 y1 y2 : V) (nD : H1 D = none)
    (h0 : ∀ (H : Hp) (Q : VK), Same H1 H → Q y0 H → te ((σ.set j none).set j (some (.int 0))) H Q) (h1 : ∀ (H : Hp) (Q : VK), Same H1 H → Q y1 H → te ((σ.set j none).set j (some (.int 1))) H Q)
    (h2 : ∀ (H : Hp) (Q : VK), Same H1 H → Q y2 H → te ((σ.set j none).set j (some (.int 2))) H Q) (hd : ∀ H, Same H1 H → H D = some (.lst [y0, y1, y2]) → Qd H) :
    ∃ Wt : Nat → Nat → Hp → Prop, (∃ m, Wt 0 m (upd H1 D (.lst []))) ∧ ∀ i m H, Wt i m H →
      ((Itt K ax).stop i H ∧ Qd H) ∨ ((Itt K ax).go i H ∧ ∃ Nx : Hp → Prop, (∀ H', Nx H' → ∃ m', m' < m ∧ Wt (i + 1) m' H') ∧ ∀ x H', (Itt K ax).yld i H x H' → gName j x (wipe σ [j]) H' fun σ2 H2 => wipe σ2 [j] = wipe σ [j] ∧ tYes σ2 H2 fun b H3 =>
        if b = true then te σ2 H3 fun v H4 => ∃ l, H4 D = some (.lst l) ∧ l.length < sizeLine ∧ Nx (upd H4 D (.lst (l ++ [v]))) else Nx H3) := by
  have sD : Same H1 (upd H1 D (.lst [])) := same_new nD
  refine lc_it (walk_tup (K := K) (a := ax) (xs := [.int 0, .int 1, .int 2])) (fun i H => Same H1 H ∧ H D = some (.lst ([y0, y1, y2].take i))) ⟨sD, upd_same⟩ (fun i H _ _ => axT H) ?_ ?_
  · rintro i x H H' hi ⟨s, hD⟩ ⟨e, hx⟩
    subst e
    refine ⟨?_, ?_⟩
    · show ((σ.set j none).set j (some x)).set j none = σ.set j none
      rw [List.set_set, List.set_set]
    · have nxt : ∀ y z, ([y0, y1, y2].take i) ++ [y] = [y0, y1, y2].take (i + 1) → z = y → (∃ acc, H' D = some (.lst acc) ∧ acc.length < sizeLine ∧ Same H1 (upd H' D (.lst (acc ++ [z]))) ∧ (upd H' D (.lst (acc ++ [z]))) D = some (.lst ([y0, y1, y2].take (i + 1)))) := by
        intro y z ey ez
        subst ez
        refine ⟨_, hD, small1000 (by rw [List.length_take]; show min i 3 ≤ _; omega), same_at s nD, ?_⟩
        rw [upd_same, ey]
      have hi : i < 3 := hi
      match i, hi, hx, nxt with
      | 0, _, hx, nxt =>
        cases (Option.some.inj hx)
        exact h0 H' _ s (nxt _ _ rfl rfl)
      | 1, _, hx, nxt =>
        cases (Option.some.inj hx)
        exact h1 H' _ s (nxt _ _ rfl rfl)
      | 2, _, hx, nxt =>
        cases (Option.some.inj hx)
        exact h2 H' _ s (nxt _ _ rfl rfl)
  · rintro H ⟨s, hD⟩
    exact hd H s hD
section
variable {P : Program} {w : World} {K : PySem.W.Frag} {mg : Str → Option Value} {base : Heap} {ax : Addr}
variable {fE fK fR fS fL : Addr} {dE dK dR dS dL : FuncData}
/-! ### box -/
theorem scBox : FnScope ["corner", "other", "axis"] ["corner", "other"] (defScope sBox) := ⟨rfl, rfl, rfl, by decide +kernel, rfl, by decide +kernel, by decide +kernel⟩
def spBox (K : PySem.W.Frag) : Sp := fun vs H Q _ => ∃ (v w : V) (b : Box), vs = [v, w] ∧ Tp K H v (ptD b.1) ∧ Tp K H w (ptD b.2) ∧ bdB b ∧
  ∀ (u : Sol) (H' : Hp) (x : V), Same H H' → SolOf [b] u → Tp K H' x (solD u) → Q x H'
theorem ok_box {f : Addr} {fd : FuncData} (F : Fun K "box" "box" sBox f fd) (T : Txt K mg ax) : FnOk P w K mg base CX0 1 f fd ["corner", "other"] (spBox K) := by
  refine F.ok scBox (fun vs H Q E h => ?_) (fun cdv A outer s H vs Q E hr h => ?_)
  · obtain ⟨v, w', b, rfl, _⟩ := h
    rfl
  · obtain ⟨v, w', b, rfl, tv, tw, hb, q⟩ := h
    obtain ⟨a1, rfl, hp1⟩ := Tp.pt tv
    obtain ⟨a2, rfl, hp2⟩ := Tp.pt tw
    refine ⟨_, pss_cons (ps_if (pt_not (pt_val (pe_callB (cr_all rfl) (by rfl) T.all (by decide +kernel) (pa_cons
        (pe_lc (own := [("axis", 2)]) (g := gName 2) (tt := tYes) rfl scBox.nd (pi_tup (pe_glob (v := .ref ax) (by rfl) T.axes rfl)) (blkOk_by (N := ["corner", "other", "axis"]) (sc := defScope sBox) (by decide +kernel))
          (fun _ _ _ _ _ => pg_name (i := 2) scBox.nd rfl (.inl rfl)) (fun _ _ _ _ _ => pts_nil)
          (fun _ _ _ _ _ => pe_cmpR op_lt (pe_ix (ix_tupK K) (pv 0) (pv 2) (fun _ _ => rfl)) (pe_ix (ix_tupK K) (pv 1) (pv 2) (fun _ _ => rfl)) (nomark _))) pa_nil))))
        (pss_one (ps_ret (pe_tup pa_nil))) pss_nil)
      (pss_one (ps_ret (pe_tup (pa_cons (pe_tup (pa_cons (pe_ix ix_tup (pv 0) pe_int (fun _ _ => rfl)) (pa_cons (pe_ix ix_tup (pv 1) pe_int (fun _ _ => rfl)) (pa_cons
        (pe_tup (pa_cons (pe_tup (pa_cons (pe_ix ix_tup (pv 0) pe_int (fun _ _ => rfl)) (pa_cons (pe_ix ix_tup (pv 1) pe_int (fun _ _ => rfl)) (pa_cons
          (pe_tup (pa_cons (pe_tup (pa_cons (pe_ix ix_tup (pv 0) pe_int (fun _ _ => rfl)) (pa_cons (pe_ix ix_tup (pv 1) pe_int (fun _ _ => rfl)) pa_nil))) pa_nil)) pa_nil)))) pa_nil)) pa_nil)))) pa_nil)))), ?_⟩
    refine ⟨_, rfl, ⟨_, T.axT H⟩, fun D nD => ?_⟩
    refine lc_axes T.axT (.bl (decide (b.1.1 < b.2.1))) (.bl (decide (b.1.2.1 < b.2.2.1))) (.bl (decide (b.1.2.2 < b.2.2.2))) nD
      (fun H' Q' s' q' => ⟨.ref a1, rfl, .int 0, rfl, a1, _, 0, _, rfl, rfl, same_seqT s' hp1, atI_nat (j := 0) rfl, .ref a2, rfl, .int 0, rfl, a2, _, 0, _, rfl, rfl, same_seqT s' hp2, atI_nat (j := 0) rfl, _, _, rfl, rfl, q'⟩)
      (fun H' Q' s' q' => ⟨.ref a1, rfl, .int 1, rfl, a1, _, 1, _, rfl, rfl, same_seqT s' hp1, atI_nat (j := 1) rfl, .ref a2, rfl, .int 1, rfl, a2, _, 1, _, rfl, rfl, same_seqT s' hp2, atI_nat (j := 1) rfl, _, _, rfl, rfl, q'⟩)
      (fun H' Q' s' q' => ⟨.ref a1, rfl, .int 2, rfl, a1, _, 2, _, rfl, rfl, same_seqT s' hp1, atI_nat (j := 2) rfl, .ref a2, rfl, .int 2, rfl, a2, _, 2, _, rfl, rfl, same_seqT s' hp2, atI_nat (j := 2) rfl, _, _, rfl, rfl, q'⟩)
      fun H1 s1 hD => ?_
    refine ⟨D, [decide (b.1.1 < b.2.1), decide (b.1.2.1 < b.2.2.1), decide (b.1.2.2 < b.2.2.2)], rfl, .inl (.inl hD), _, rfl, ?_⟩
    by_cases hw : wide b
    · have hall : ([decide (b.1.1 < b.2.1), decide (b.1.2.1 < b.2.2.1), decide (b.1.2.2 < b.2.2.2)] : List Bool).all id = true := by
        rw [decide_eq_true hw.1, decide_eq_true hw.2.1, decide_eq_true hw.2.2]
        rfl
      rw [hall]
      refine iteF ?_
      have g1 := same_seqT (K := K) s1 hp1
      have g2 := same_seqT (K := K) s1 hp2
      refine ⟨.ref a1, rfl, a1, _, 2, _, rfl, rfl, g1, atI_nat (j := 2) rfl, .ref a2, rfl, a2, _, 2, _, rfl, rfl, g2, atI_nat (j := 2) rfl, ?_⟩
      refine ⟨.ref a1, rfl, a1, _, 1, _, rfl, rfl, g1, atI_nat (j := 1) rfl, .ref a2, rfl, a2, _, 1, _, rfl, rfl, g2, atI_nat (j := 1) rfl, ?_⟩
      refine ⟨.ref a1, rfl, a1, _, 0, _, rfl, rfl, g1, atI_nat (j := 0) rfl, .ref a2, rfl, a2, _, 0, _, rfl, rfl, g2, atI_nat (j := 0) rfl, line2 _ _, fun t1 n1 => ⟨line1 _, fun t2 n2 => ⟨line3 _ _ _, fun t3 n3 => ⟨line1 _, fun t4 n4 => ⟨line3 _ _ _, fun t5 n5 => ⟨line1 _, fun t6 n6 => ?_⟩⟩⟩⟩⟩⟩
      have d1 : Tp K _ (.ref t1) (segD (b.1.1, b.2.1)) := Tp.new n1 (.cons (.int _) (.cons (.int _) .nil))
      have d2 : Tp K _ (.ref t2) (rowD [(b.1.1, b.2.1)]) := Tp.new n2 (.cons d1 .nil)
      have d3 : Tp K _ (.ref t3) (strD rowD (b.1.2.1, b.2.2.1, [(b.1.1, b.2.1)])) := Tp.new n3 (.cons (.int _) (.cons (.int _) (.cons d2 .nil)))
      have d4 : Tp K _ (.ref t4) (layD [(b.1.2.1, b.2.2.1, [(b.1.1, b.2.1)])]) := Tp.new n4 (.cons d3 .nil)
      have d5 : Tp K _ (.ref t5) (strD layD (b.1.2.2, b.2.2.2, [(b.1.2.1, b.2.2.1, [(b.1.1, b.2.1)])])) := Tp.new n5 (.cons (.int _) (.cons (.int _) (.cons d4 .nil)))
      have d6 : Tp K _ (.ref t6) (solD (oneBox b)) := Tp.new n6 (.cons d5 .nil)
      exact q (oneBox b) _ _ ((((((s1.trans (same_new n1)).trans (same_new n2)).trans (same_new n3)).trans (same_new n4)).trans (same_new n5)).trans (same_new n6)) (oneBox_of hw hb) d6
    · have hall : ([decide (b.1.1 < b.2.1), decide (b.1.2.1 < b.2.2.1), decide (b.1.2.2 < b.2.2.2)] : List Bool).all id = false := by
        rw [Bool.eq_false_iff]
        intro z
        have z : (decide (b.1.1 < b.2.1) && (decide (b.1.2.1 < b.2.2.1) && (decide (b.1.2.2 < b.2.2.2) && true))) = true := z
        simp only [Bool.and_eq_true, decide_eq_true_eq] at z
        exact hw ⟨z.1, z.2.1, z.2.2.1⟩
      rw [hall]
      refine iteT ⟨Nat.zero_le _, fun t nt => ?_⟩
      exact q [] _ _ (s1.trans (same_new nt)) (noBox_of hw) (Tp.new nt .nil)
/-! ### boxes_of -/
theorem len_flat_le {A C : Type} {g : A → List C} {n : Nat} : ∀ {l : List A}, (∀ a ∈ l, (g a).length ≤ n) → (l.flatMap g).length ≤ l.length * n
  | [], _ => by simp
  | a :: r, h => by
    have ih := len_flat_le (l := r) fun b hb => h b (List.mem_cons_of_mem _ hb)
    have h1 := h a List.mem_cons_self
    rw [List.flatMap_cons, List.length_append, List.length_cons, Nat.succ_mul]
    omega
theorem boxesL_len {z0 z1 : Int} {l : Layer} (h : LayOk l) : (boxesL z0 z1 l).length ≤ 1600 := by
  have h1 : (boxesL z0 z1 l).length ≤ l.length * 40 := len_flat_le fun p hp => by
    unfold boxesR
    rw [List.length_map]
    exact RowOk.len (h.each p hp).2.2.1
  have h2 := Ok.len h
  omega
theorem boxes_len {s : Sol} (h : SolOk s) : (boxes s).length ≤ 64000 := by
  have h1 : (boxes s).length ≤ s.length * 1600 := len_flat_le fun p hp => boxesL_len (h.each p hp).2.2.1
  have h2 := Ok.len h
  omega
theorem line100k {n : Nat} (h : n ≤ 100000) : n < sizeLine := Nat.lt_of_le_of_lt h (by decide)
theorem boxes_take {s : Sol} {i : Nat} {p : Int × Int × Layer} (h : s[i]? = some p) : boxes (s.take (i + 1)) = boxes (s.take i) ++ boxesL p.1 p.2.1 p.2.2 := by
  unfold boxes
  rw [List.take_add_one, h, List.flatMap_append]
  show _ = _
  simp
theorem boxesL_take {z0 z1 : Int} {l : Layer} {i : Nat} {p : Int × Int × Row} (h : l[i]? = some p) : boxesL z0 z1 (l.take (i + 1)) = boxesL z0 z1 (l.take i) ++ boxesR z0 z1 p.1 p.2.1 p.2.2 := by
  unfold boxesL
  rw [List.take_add_one, h, List.flatMap_append]
  simp
theorem take_len_le {A C : Type} (g : A → List C) (l : List A) (i : Nat) : ((l.take i).flatMap g).length ≤ (l.flatMap g).length := by
  rw [← List.take_append_drop i l, List.flatMap_append, List.length_append, List.take_append_drop]
  exact Nat.le_add_right _ _
theorem boxesR_take {z0 z1 y0 y1 : Int} {r : Row} {i : Nat} {p : Int × Int} (h : r[i]? = some p) : boxesR z0 z1 y0 y1 (r.take (i + 1)) = boxesR z0 z1 y0 y1 (r.take i) ++ [((p.1, y0, z0), (p.2, y1, z1))] := by
  unfold boxesR
  rw [List.take_add_one, h, List.map_append]
  rfl
theorem scBoxesOf : FnScope ["solid", "found", "z0", "z1", "layer", "y0", "y1", "row", "x0", "x1"] ["solid"] (defScope sBoxesOf) := ⟨rfl, rfl, rfl, by decide +kernel, rfl, by decide +kernel, by decide +kernel⟩
def spBoxesOf (K : PySem.W.Frag) : Sp := fun vs H Q _ => ∃ (v : V) (s : Sol), vs = [v] ∧ Tp K H v (solD s) ∧ SolOk s ∧
  ∀ (H' : Hp) (l : Addr) (ys : List V), Same H H' → H l = none → H' l = some (.lst ys) → TpAll K H' ys ((boxes s).map boxD) → Q (.ref l) H'
theorem ok_boxesOf {f : Addr} {fd : FuncData} (F : Fun K "boxes_of" "boxes_of" sBoxesOf f fd) (T : Txt K mg ax) : FnOk P w K mg base CX0 1 f fd ["solid"] (spBoxesOf K) := by
  refine F.ok scBoxesOf (fun vs H Q E h => ?_) (fun cdv A outer s H vs Q E hr h => ?_)
  · obtain ⟨v, s, rfl, _⟩ := h
    rfl
  · obtain ⟨v, S, rfl, tv, ok, q⟩ := h
    obtain ⟨a, xs, rfl, hx, al⟩ := Tp.inv tv
    refine ⟨_, pss_cons (ps_set (i := 1) scBoxesOf.nd rfl (.inl rfl) (pe_lst pa_nil))
      (pss_cons (ps_for PassesOwn.never rfl (pi_tup (pv 0)) (pg_tup rfl (pgs_cons (pg_name (i := 2) scBoxesOf.nd rfl (.inr rfl)) (pgs_cons (pg_name (i := 3) scBoxesOf.nd rfl (.inr rfl)) (pgs_cons (pg_name (i := 4) scBoxesOf.nd rfl (.inl rfl)) pgs_nil))))
        (pss_one (ps_for PassesOwn.never rfl (pi_tup (pv 4)) (pg_tup rfl (pgs_cons (pg_name (i := 5) scBoxesOf.nd rfl (.inr rfl)) (pgs_cons (pg_name (i := 6) scBoxesOf.nd rfl (.inr rfl)) (pgs_cons (pg_name (i := 7) scBoxesOf.nd rfl (.inl rfl)) pgs_nil))))
          (pss_one (ps_expr (pe_bm PySem.F.plainAttrs_list PySem.F.slot_list_extend PySem.F.type_list_extend mt_extend (pv 1) (pa_cons
            (pe_lc (own := [("x0", 8), ("x1", 9)]) (g := gTup K 2 (gCons (gName 8) (gCons (gName 9) gNil))) (tt := tYes) rfl scBoxesOf.nd (pi_tup (pv 7)) (blkOk_by (N := ["solid", "found", "z0", "z1", "layer", "y0", "y1", "row", "x0", "x1"]) (sc := defScope sBoxesOf) (by decide +kernel))
              (fun _ _ _ _ _ => pg_tup rfl (pgs_cons (pg_name (i := 8) scBoxesOf.nd rfl (.inl rfl)) (pgs_cons (pg_name (i := 9) scBoxesOf.nd rfl (.inl rfl)) pgs_nil))) (fun _ _ _ _ _ => pts_nil)
              (fun _ _ _ _ _ => pe_tup (pa_cons (pe_tup (pa_cons (pv 8) (pa_cons (pv 5) (pa_cons (pv 2) pa_nil)))) (pa_cons (pe_tup (pa_cons (pv 9) (pa_cons (pv 6) (pa_cons (pv 3) pa_nil)))) pa_nil)))) pa_nil)))))))
      (pss_one (ps_ret (pv 1)))), ?_⟩
    -- found = []
    refine ⟨Nat.zero_le _, fun l nl => ?_⟩
    have s1 : Same H (upd H l (.lst [])) := same_new nl
    refine ⟨.ref a, rfl, a, rfl, ⟨_, same_seqT s1 hx⟩, for_tup (K := K) (a := a) (xs := xs) (fun i σ H3 => ∃ (ys : List V) (y2 y3 y4 y5 y6 y7 : Option V), σ = [some (.ref a), some (.ref l), y2, y3, y4, y5, y6, y7, none, none] ∧ Same H H3 ∧ H3 l = some (.lst ys) ∧ TpAll K H3 ys ((boxes (S.take i)).map boxD))
      ⟨[], none, none, none, none, none, none, rfl, s1, upd_same, .nil⟩ (fun i σ H3 _ ⟨_, _, _, _, _, _, _, _, h, _⟩ => same_seqT h hx) ?_ ?_⟩
    · rintro i x σ H3 hi ⟨ys, y2, y3, y4, y5, y6, y7, rfl, s3, hl3, al3⟩
      obtain ⟨p, hp, tp⟩ := al.of' hi
      obtain ⟨t, z, rfl, st, tz⟩ := Tp.str tp
      obtain ⟨b, zs, rfl, hz, alz⟩ := Tp.inv tz
      have okp := (ok.each p (List.mem_of_getElem? hp)).2.2.1
      have len1 : (boxes (S.take i)).length + (boxesL p.1 p.2.1 p.2.2).length ≤ 64000 := by
        have e := boxes_take hp
        have h1 : (boxes (S.take (i + 1))).length ≤ (boxes S).length := take_len_le _ S (i + 1)
        have h2 := boxes_len ok
        rw [e, List.length_append] at h1
        omega
      refine ⟨t, _, rfl, same_seqT s3 st, rfl, _, [_, _], rfl, _, [_], rfl, _, [], rfl, rfl, ?_⟩
      refine ⟨.ref b, rfl, b, rfl, ⟨_, same_seqT s3 hz⟩, for_tup (K := K) (a := b) (xs := zs) (fun j σ H4 => ∃ (ys : List V) (y5 y6 y7 : Option V), σ = [some (.ref a), some (.ref l), some (.int p.1), some (.int p.2.1), some (.ref b), y5, y6, y7, none, none] ∧ Same H H4 ∧ H4 l = some (.lst ys) ∧ TpAll K H4 ys ((boxes (S.take i) ++ boxesL p.1 p.2.1 (p.2.2.take j)).map boxD))
        ⟨ys, y5, y6, y7, rfl, s3, hl3, by
          have e : boxesL p.1 p.2.1 (p.2.2.take 0) = [] := rfl
          rw [e, List.append_nil]
          exact al3⟩ (fun j σ H4 _ ⟨_, _, _, _, _, h, _⟩ => same_seqT h hz) ?_ ?_⟩
      · rintro j x2 σ H4 hj ⟨ys4, z5, z6, z7, rfl, s4, hl4, al4⟩
        obtain ⟨r, hr', tr⟩ := alz.of' hj
        obtain ⟨t2, z2, rfl, st2, tz2⟩ := Tp.str tr
        obtain ⟨c, ws, rfl, hc, alc⟩ := Tp.inv tz2
        have okr := (Ok.each okp r (List.mem_of_getElem? hr')).2.2.1
        have len2 : (boxesL p.1 p.2.1 (p.2.2.take j)).length + (boxesR p.1 p.2.1 r.1 r.2.1 r.2.2).length ≤ (boxesL p.1 p.2.1 p.2.2).length := by
          have e := boxesL_take (z0 := p.1) (z1 := p.2.1) hr'
          have h1 : (boxesL p.1 p.2.1 (p.2.2.take (j + 1))).length ≤ (boxesL p.1 p.2.1 p.2.2).length := take_len_le _ p.2.2 (j + 1)
          rw [e, List.length_append] at h1
          exact h1
        refine ⟨t2, _, rfl, same_seqT s4 st2, rfl, _, [_, _], rfl, _, [_], rfl, _, [], rfl, rfl, ?_⟩
        -- found.extend([..])
        refine ⟨.ref l, rfl, .inl ⟨rfl, _, .inl (.inl hl4)⟩, .ref c, rfl, c, rfl, ⟨_, same_seqT s4 hc⟩, fun D nD => ?_⟩
        have sD : Same H4 (upd H4 D (.lst [])) := same_new nD
        refine lc_it (walk_tup (K := K) (a := c) (xs := ws)) (fun m H5 => Same H4 H5 ∧ ∃ us, H5 D = some (.lst us) ∧ TpAll K H5 us ((boxesR p.1 p.2.1 r.1 r.2.1 (r.2.2.take m)).map boxD))
          ⟨sD, [], upd_same, .nil⟩ (fun m H5 _ ⟨h, _⟩ => same_seqT h (same_seqT s4 hc)) ?_ ?_
        · rintro m x3 H5 H6 hm ⟨s5, us, hD, al5⟩ ⟨e, hx3⟩
          subst e
          obtain ⟨g, hg, tg⟩ := alc.of' hx3
          obtain ⟨t3, rfl, st3⟩ := Tp.seg tg
          have s45 := s4.trans s5
          refine ⟨t3, _, rfl, same_seqT s45 st3, rfl, _, [_], rfl, _, [], rfl, rfl, rfl, ?_⟩
          refine ⟨_, rfl, _, rfl, _, rfl, line3 _ _ _, fun u1 n1 => ⟨_, rfl, _, rfl, _, rfl, line3 _ _ _, fun u2 n2 => ⟨line2 _ _, fun u3 n3 => ?_⟩⟩⟩
          have q1 := same_new (o := .tup [.int g.1, .int r.1, .int p.1]) n1
          have q2 := same_new (o := .tup [.int g.2, .int r.2.1, .int p.2.1]) n2
          have q3 := same_new (o := .tup [.ref u1, .ref u2]) n3
          have d1 : Tp K _ (.ref u1) (ptD (g.1, r.1, p.1)) := Tp.new n1 (.cons (.int _) (.cons (.int _) (.cons (.int _) .nil)))
          have d2 : Tp K _ (.ref u2) (ptD (g.2, r.2.1, p.2.1)) := Tp.new n2 (.cons (.int _) (.cons (.int _) (.cons (.int _) .nil)))
          have d3 : Tp K _ (.ref u3) (boxD ((g.1, r.1, p.1), (g.2, r.2.1, p.2.1))) := Tp.new n3 (.cons (d1.mono (TS.same q2)) (.cons d2 .nil))
          have sq := (q1.trans q2).trans q3
          have hD' := sq _ _ hD
          refine ⟨us, hD', line100k ?_, ?_, us ++ [.ref u3], upd_same, ?_⟩
          · have h1 := al5.len'
            have h2 : (boxesR p.1 p.2.1 r.1 r.2.1 (r.2.2.take m)).length ≤ 40 := by
              unfold boxesR
              rw [List.length_map, List.length_take]
              have := RowOk.len okr
              omega
            omega
          · exact fun b o e => by
              rw [upd_ne (ne_of_none e nD)]
              exact sq _ _ (s5 _ _ e)
          · rw [boxesR_take hg, List.map_append]
            exact ((al5.mono (TS.same sq)).app (TpAll.one d3)).mono (TS.lst hD')
        · rintro H5 ⟨s5, us, hD, al5⟩
          have hl5 := s5 _ _ hl4
          have hwl : ws.length = r.2.2.length := alc.len'
          rw [hwl, List.take_length] at al5
          refine ⟨l, D, ys4, us, rfl, rfl, hl5, hD, ?_, ?_⟩
          · have h1 := al4.len'
            have h2 := al5.len'
            rw [List.length_append] at h1
            exact Nat.le_of_lt (line100k (by omega))
          · have tsl := TS.lst (K := K) (o := .lst (ys4 ++ us)) hl5
            refine ⟨ys4 ++ us, _, _, _, rfl, same_at (s4.trans s5) nl, upd_same, ?_⟩
            rw [boxesL_take hr', ← List.append_assoc, List.map_append]
            exact (((al4.mono (TS.same s5)).app al5)).mono tsl
      · rintro σ H4 ⟨ys4, z5, z6, z7, rfl, s4, hl4, al4⟩
        have hzl : zs.length = p.2.2.length := alz.len'
        rw [hzl, List.take_length, ← boxes_take hp] at al4
        exact ⟨ys4, _, _, _, _, _, _, rfl, s4, hl4, al4⟩
    · rintro σ H3 ⟨ys, y2, y3, y4, y5, y6, y7, rfl, s3, hl3, al3⟩
      have hxl : xs.length = S.length := al.len'
      rw [hxl, List.take_length] at al3
      exact ⟨_, rfl, q H3 l ys s3 nl hl3 al3⟩
end
end K4
/-! C8_Of: of_boxes, the law's own solid of boxes, volume. -/
namespace K4
open PySem PySem.Spec PyProof.Rows L2

section
variable {P : Program} {w : World} {K : PySem.W.Frag} {mg : Str → Option Value} {base : Heap} {ax : Addr}
variable {fE fK fR fS fL : Addr} {dE dK dR dS dL : FuncData}
def spOfBoxes (K : PySem.W.Frag) : Sp := fun vs H Q _ => ∃ (a : Addr) (xs : List V) (bs : List Box), vs = [.ref a] ∧ SqL K H a xs ∧ TpAll K H xs (bs.map boxD) ∧ (∀ b ∈ bs, bdB b) ∧ bs.length ≤ 10000 ∧
  ∀ (u : Sol) (H' : Hp) (x : V), Same H H' → SolOf bs u → Tp K H' x (solD u) → Q x H'
theorem anyTakeB {L : List Box} {n : Nat} {s : Box} {p : Box → Prop} (h : L[n]? = some s) : (∃ u ∈ L.take (n + 1), p u) ↔ (∃ u ∈ L.take n, p u) ∨ p s := by
  rw [List.take_add_one, h]
  constructor
  · rintro ⟨u, hu, hp⟩
    rcases List.mem_append.mp hu with hu | hu
    · exact .inl ⟨u, hu, hp⟩
    · have e : u = s := by simpa using hu
      exact .inr (e ▸ hp)
  · rintro (⟨u, hu, hp⟩ | hp)
    · exact ⟨u, List.mem_append_left _ hu, hp⟩
    · exact ⟨s, List.mem_append_right _ (by simp), hp⟩
theorem scOfBoxes : FnScope ["boxes", "low", "high"] ["boxes"] (defScope sOfBoxes) := ⟨rfl, rfl, rfl, by decide +kernel, rfl, by decide +kernel, by decide +kernel⟩
theorem ok_OfBoxes {f fU fO fB : Addr} {fd fdU fdO fdB : FuncData} (F : Fun K "of_boxes" "of_boxes" sOfBoxes f fd) (FU : Fun K "union" "union" sUnion fU fdU) (bU : Binds K fdU ["one", "other"] []) (gU : mg "union" = some (.ref fU))
    (FO : Fun K "union_of" "union_of" sUnionOf fO fdO) (bO : Binds K fdO ["solids"] []) (gO : mg "union_of" = some (.ref fO))
    (FB : Fun K "box" "box" sBox fB fdB) (bB : Binds K fdB ["corner", "other"] []) (gB : mg "box" = some (.ref fB))
    (D : Defs K mg fE fK fR fS fL dE dK dR dS dL) (T : Txt K mg ax) : FnOk P w K mg base CX0 8 f fd ["boxes"] (spOfBoxes K) := by
  have GO : FnOk P w K mg base CX0 7 fO fdO ["solids"] (spUnionOf K) := ok_unionOf FO FU bU gU D T
  have GB : FnOk P w K mg base CX0 1 fB fdB ["corner", "other"] (spBox K) := ok_box FB T
  refine F.ok scOfBoxes (fun vs H Q E h => ?_) (fun cdv A outer s H vs Q E hr h => ?_)
  · obtain ⟨a, xs, bs, rfl, _⟩ := h
    rfl
  · obtain ⟨a, xs, bs, rfl, hx, al, hbd, hlen, q⟩ := h
    have hr1 : Room 1 _ := hr.mono (by decide)
    refine ⟨_, pss_one (ps_ret (pe_call GO hr (by rfl) gO FO.kp bO .nil pass0 (pa_cons
      (pe_lc (own := [("low", 1), ("high", 2)]) (g := gTup K 2 (gCons (gName 1) (gCons (gName 2) gNil))) (tt := tYes) rfl scOfBoxes.nd (pi_list (pv 0)) (blkOk_by (N := ["boxes", "low", "high"]) (sc := defScope sOfBoxes) (by decide +kernel))
        (fun _ _ _ _ _ => pg_tup rfl (pgs_cons (pg_name (i := 1) scOfBoxes.nd rfl (.inl rfl)) (pgs_cons (pg_name (i := 2) scOfBoxes.nd rfl (.inl rfl)) pgs_nil))) (fun _ _ _ _ _ => pts_nil)
        (fun _ _ _ _ _ => pe_call GB hr1 (by rfl) gB FB.kp bB .nil pass0 (pa_cons (pv 1) (pa_cons (pv 2) pa_nil)))) pa_nil))), ?_⟩
    have hxl : xs.length = bs.length := al.len'
    refine ⟨.ref a, rfl, a, rfl, ⟨_, hx⟩, fun D nD => ?_⟩
    have sD : Same H (upd H D (.lst [])) := same_new nD
    refine lc_it (walk_list (K := K) (a := a) (xs := xs)) (fun m H5 => Same H H5 ∧ ∃ (us : List Sol) (ys : List V), H5 D = some (.lst ys) ∧ us.length = m ∧ TpAll K H5 ys (us.map solD) ∧ (∀ u ∈ us, SolOk u) ∧ ∀ q, (∃ u ∈ us, pm u q) ↔ ∃ b ∈ bs.take m, inB b q)
      ⟨sD, [], [], upd_same, rfl, .nil, fun u hu => (nomatch hu), fun q => by simp⟩ (fun m H5 _ ⟨h, _⟩ => h.seq hx) ?_ ?_
    · rintro m x H5 H6 hm ⟨s5, us, ys, hD, hul, alu, oku, semu⟩ ⟨e, hx3⟩
      subst e
      obtain ⟨b, hb, tb⟩ := al.of' hx3
      obtain ⟨t, tl, tg, rfl, st, stl, stg⟩ := Tp.box tb
      refine ⟨t, _, rfl, same_seqT s5 st, rfl, _, [_], rfl, _, [], rfl, rfl, rfl, ?_⟩
      refine ⟨_, rfl, _, rfl, _, _, b, rfl, Tp.ofPt (same_seqT s5 stl), Tp.ofPt (same_seqT s5 stg), hbd b (List.mem_of_getElem? hb), fun u H7 y sm hu ht => ?_⟩
      have hD7 := sm _ _ hD
      refine ⟨ys, hD7, line10k (by have := alu.len'; have : m < xs.length := hm; omega), ?_, us ++ [u], _, upd_same, by rw [List.length_append, hul]; rfl, ?_, ?_, fun q => ?_⟩
      · exact fun b o e => by
          rw [upd_ne (ne_of_none e nD)]
          exact sm _ _ (s5 _ _ e)
      · rw [List.map_append]
        exact ((alu.mono (TS.same sm)).app (TpAll.one ht)).mono (TS.lst hD7)
      · intro u' hu'
        rcases List.mem_append.mp hu' with h | h
        · exact oku u' h
        · rw [List.mem_singleton.mp h]
          exact hu.1
      · rw [anyTakeB hb, ← semu q]
        constructor
        · rintro ⟨u', hu', hp⟩
          rcases List.mem_append.mp hu' with h | h
          · exact .inl ⟨u', h, hp⟩
          · rw [List.mem_singleton.mp h] at hp
            obtain ⟨b', hb', hp⟩ := (hu.2 q).mp hp
            rw [List.mem_singleton.mp hb'] at hp
            exact .inr hp
        · rintro (⟨u', h, hp⟩ | hp)
          · exact ⟨u', List.mem_append_left _ h, hp⟩
          · exact ⟨u, List.mem_append_right _ (by simp), (hu.2 q).mpr ⟨b, by simp, hp⟩⟩
    · rintro H5 ⟨s5, us, ys, hD, hul, alu, oku, semu⟩
      refine ⟨D, ys, us, rfl, .inl (.inl hD), alu, oku, by omega, fun u H7 y sm hok hsem ht => q u H7 y (s5.trans sm) ⟨hok, fun p => ?_⟩ ht⟩
      rw [hsem p, semu p, hxl, List.take_length]
theorem scLSolid : FnScope ["_law_boxes_here", "_law_low", "_law_high"] ["_law_boxes_here"] (defScope sLSolid) := ⟨rfl, rfl, rfl, by decide +kernel, rfl, by decide +kernel, by decide +kernel⟩
theorem ok_LSolid {f fU fO fB : Addr} {fd fdU fdO fdB : FuncData} (F : Fun K "_law_solid" "_law_solid" sLSolid f fd) (FU : Fun K "union" "union" sUnion fU fdU) (bU : Binds K fdU ["one", "other"] []) (gU : mg "union" = some (.ref fU))
    (FO : Fun K "union_of" "union_of" sUnionOf fO fdO) (bO : Binds K fdO ["solids"] []) (gO : mg "union_of" = some (.ref fO))
    (FB : Fun K "box" "box" sBox fB fdB) (bB : Binds K fdB ["corner", "other"] []) (gB : mg "box" = some (.ref fB))
    (D : Defs K mg fE fK fR fS fL dE dK dR dS dL) (T : Txt K mg ax) : FnOk P w K mg base CX0 8 f fd ["_law_boxes_here"] (spOfBoxes K) := by
  have GO : FnOk P w K mg base CX0 7 fO fdO ["solids"] (spUnionOf K) := ok_unionOf FO FU bU gU D T
  have GB : FnOk P w K mg base CX0 1 fB fdB ["corner", "other"] (spBox K) := ok_box FB T
  refine F.ok scLSolid (fun vs H Q E h => ?_) (fun cdv A outer s H vs Q E hr h => ?_)
  · obtain ⟨a, xs, bs, rfl, _⟩ := h
    rfl
  · obtain ⟨a, xs, bs, rfl, hx, al, hbd, hlen, q⟩ := h
    have hr1 : Room 1 _ := hr.mono (by decide)
    refine ⟨_, pss_one (ps_ret (pe_call GO hr (by rfl) gO FO.kp bO .nil pass0 (pa_cons
      (pe_lc (own := [("_law_low", 1), ("_law_high", 2)]) (g := gTup K 2 (gCons (gName 1) (gCons (gName 2) gNil))) (tt := tYes) rfl scLSolid.nd (pi_list (pv 0)) (blkOk_by (N := ["_law_boxes_here", "_law_low", "_law_high"]) (sc := defScope sLSolid) (by decide +kernel))
        (fun _ _ _ _ _ => pg_tup rfl (pgs_cons (pg_name (i := 1) scLSolid.nd rfl (.inl rfl)) (pgs_cons (pg_name (i := 2) scLSolid.nd rfl (.inl rfl)) pgs_nil))) (fun _ _ _ _ _ => pts_nil)
        (fun _ _ _ _ _ => pe_call GB hr1 (by rfl) gB FB.kp bB .nil pass0 (pa_cons (pv 1) (pa_cons (pv 2) pa_nil)))) pa_nil))), ?_⟩
    have hxl : xs.length = bs.length := al.len'
    refine ⟨.ref a, rfl, a, rfl, ⟨_, hx⟩, fun D nD => ?_⟩
    have sD : Same H (upd H D (.lst [])) := same_new nD
    refine lc_it (walk_list (K := K) (a := a) (xs := xs)) (fun m H5 => Same H H5 ∧ ∃ (us : List Sol) (ys : List V), H5 D = some (.lst ys) ∧ us.length = m ∧ TpAll K H5 ys (us.map solD) ∧ (∀ u ∈ us, SolOk u) ∧ ∀ q, (∃ u ∈ us, pm u q) ↔ ∃ b ∈ bs.take m, inB b q)
      ⟨sD, [], [], upd_same, rfl, .nil, fun u hu => (nomatch hu), fun q => by simp⟩ (fun m H5 _ ⟨h, _⟩ => h.seq hx) ?_ ?_
    · rintro m x H5 H6 hm ⟨s5, us, ys, hD, hul, alu, oku, semu⟩ ⟨e, hx3⟩
      subst e
      obtain ⟨b, hb, tb⟩ := al.of' hx3
      obtain ⟨t, tl, tg, rfl, st, stl, stg⟩ := Tp.box tb
      refine ⟨t, _, rfl, same_seqT s5 st, rfl, _, [_], rfl, _, [], rfl, rfl, rfl, ?_⟩
      refine ⟨_, rfl, _, rfl, _, _, b, rfl, Tp.ofPt (same_seqT s5 stl), Tp.ofPt (same_seqT s5 stg), hbd b (List.mem_of_getElem? hb), fun u H7 y sm hu ht => ?_⟩
      have hD7 := sm _ _ hD
      refine ⟨ys, hD7, line10k (by have := alu.len'; have : m < xs.length := hm; omega), ?_, us ++ [u], _, upd_same, by rw [List.length_append, hul]; rfl, ?_, ?_, fun q => ?_⟩
      · exact fun b o e => by
          rw [upd_ne (ne_of_none e nD)]
          exact sm _ _ (s5 _ _ e)
      · rw [List.map_append]
        exact ((alu.mono (TS.same sm)).app (TpAll.one ht)).mono (TS.lst hD7)
      · intro u' hu'
        rcases List.mem_append.mp hu' with h | h
        · exact oku u' h
        · rw [List.mem_singleton.mp h]
          exact hu.1
      · rw [anyTakeB hb, ← semu q]
        constructor
        · rintro ⟨u', hu', hp⟩
          rcases List.mem_append.mp hu' with h | h
          · exact .inl ⟨u', h, hp⟩
          · rw [List.mem_singleton.mp h] at hp
            obtain ⟨b', hb', hp⟩ := (hu.2 q).mp hp
            rw [List.mem_singleton.mp hb'] at hp
            exact .inr hp
        · rintro (⟨u', h, hp⟩ | hp)
          · exact ⟨u', List.mem_append_left _ h, hp⟩
          · exact ⟨u, List.mem_append_right _ (by simp), (hu.2 q).mpr ⟨b, by simp, hp⟩⟩
    · rintro H5 ⟨s5, us, ys, hD, hul, alu, oku, semu⟩
      refine ⟨D, ys, us, rfl, .inl (.inl hD), alu, oku, by omega, fun u H7 y sm hok hsem ht => q u H7 y (s5.trans sm) ⟨hok, fun p => ?_⟩ ht⟩
      rw [hsem p, semu p, hxl, List.take_length]
/-! ### volume -/
theorem scVolume : FnScope ["solid", "found", "low", "high"] ["solid"] (defScope sVolume) := ⟨rfl, rfl, rfl, by decide +kernel, rfl, by decide +kernel, by decide +kernel⟩
def spVolume (K : PySem.W.Frag) : Sp := fun vs H Q _ => ∃ (v : V) (s : Sol), vs = [v] ∧ Tp K H v (solD s) ∧ SolOk s ∧ ∀ (H' : Hp), Same H H' → Q (.int ((boxes s).map vol).sum) H'
theorem ok_volume {f fB : Addr} {fd fdB : FuncData} (F : Fun K "volume" "volume" sVolume f fd) (FB : Fun K "boxes_of" "boxes_of" sBoxesOf fB fdB) (bB : Binds K fdB ["solid"] []) (gB : mg "boxes_of" = some (.ref fB))
    (T : Txt K mg ax) : FnOk P w K mg base CX0 2 f fd ["solid"] (spVolume K) := by
  have GB : FnOk P w K mg base CX0 1 fB fdB ["solid"] (spBoxesOf K) := ok_boxesOf FB T
  refine F.ok scVolume (fun vs H Q E h => ?_) (fun cdv A outer s H vs Q E hr h => ?_)
  · obtain ⟨v, s, rfl, _⟩ := h
    rfl
  · obtain ⟨v, S, rfl, tv, ok, q⟩ := h
    refine ⟨_, pss_cons (ps_set (i := 1) scVolume.nd rfl (.inl rfl) pe_int)
      (pss_cons (ps_for PassesOwn.never rfl (pi_list (pe_call GB hr (by rfl) gB FB.kp bB .nil pass0 (pa_cons (pv 0) pa_nil))) (pg_tup rfl (pgs_cons (pg_name (i := 2) scVolume.nd rfl (.inl rfl)) (pgs_cons (pg_name (i := 3) scVolume.nd rfl (.inl rfl)) pgs_nil)))
        (pss_one (ps_aug (i := 1) scVolume.nd rfl (.inl rfl) (pe_op op_mul (pe_op op_mul (pe_op op_sub (pe_ix ix_tup (pv 3) pe_int (fun _ _ => rfl)) (pe_ix ix_tup (pv 2) pe_int (fun _ _ => rfl))) (pe_op op_sub (pe_ix ix_tup (pv 3) pe_int (fun _ _ => rfl)) (pe_ix ix_tup (pv 2) pe_int (fun _ _ => rfl))))
          (pe_op op_sub (pe_ix ix_tup (pv 3) pe_int (fun _ _ => rfl)) (pe_ix ix_tup (pv 2) pe_int (fun _ _ => rfl)))) ip_add)))
      (pss_one (ps_ret (pv 1)))), ?_⟩
    refine ⟨_, rfl, v, S, rfl, tv, ok, fun H1 l ys s1 nl hl al => ?_⟩
    have hyl : ys.length = (boxes S).length := al.len'
    refine ⟨l, rfl, ⟨_, .inl (.inl hl)⟩, for_list (K := K) (a := l) (xs := ys) (fun i σ H2 => H2 = H1 ∧ ∃ y2 y3, σ = [some v, some (.int (((boxes S).map vol).take i).sum), y2, y3]) ⟨rfl, none, none, rfl⟩ (fun i σ H2 _ ⟨e, _⟩ => by rw [e]; exact .inl (.inl hl)) ?_ ?_⟩
    · rintro i x σ H2 hi ⟨rfl, y2, y3, rfl⟩
      obtain ⟨b, hb, tb⟩ := al.of' hi
      obtain ⟨t, tl, tg, rfl, st, stl, stg⟩ := Tp.box tb
      obtain ⟨_, ⟨⟨b1, b2⟩, ⟨b3, b4⟩, ⟨b5, b6⟩⟩, ⟨⟨c1, c2⟩, ⟨c3, c4⟩, ⟨c5, c6⟩⟩⟩ := box_ok ok (List.mem_of_getElem? hb)
      refine ⟨t, _, rfl, st, rfl, _, [_], rfl, _, [], rfl, rfl, ?_⟩
      refine ⟨_, rfl, ?_⟩
      refine ⟨_, rfl, _, _, 0, _, rfl, rfl, stg, atI_nat (j := 0) rfl, _, rfl, _, _, 0, _, rfl, rfl, stl, atI_nat (j := 0) rfl, _, _, rfl, rfl, ?_⟩
      refine ⟨_, rfl, _, _, 1, _, rfl, rfl, stg, atI_nat (j := 1) rfl, _, rfl, _, _, 1, _, rfl, rfl, stl, atI_nat (j := 1) rfl, _, _, rfl, rfl, _, _, rfl, rfl, .inl ⟨by omega, by omega⟩, ?_⟩
      refine ⟨_, rfl, _, _, 2, _, rfl, rfl, stg, atI_nat (j := 2) rfl, _, rfl, _, _, 2, _, rfl, rfl, stl, atI_nat (j := 2) rfl, _, _, rfl, rfl, _, _, rfl, rfl, .inr ⟨by omega, by omega⟩, ?_⟩
      refine ⟨_, _, rfl, rfl, rfl, some (.ref tl), some (.ref tg), ?_⟩
      have hm : ((boxes S).map vol)[i]? = some (vol b) := by rw [List.getElem?_map, hb]; rfl
      rw [sum_take hm]
      rfl
    · rintro σ H2 ⟨rfl, y2, y3, rfl⟩
      refine ⟨_, rfl, ?_⟩
      rw [List.take_of_length_le (by rw [List.length_map, hyl]; exact Nat.le_refl _)]
      exact q _ s1
end
end K4
/-! C9_Moved: moved. -/
namespace K4
open PySem PySem.Spec PyProof.Rows L2

theorem call_tuple_ofK {X : Cx} (K : PySem.W.Frag) (h : X.K = K := by rfl) : CallR X (.type "tuple") (fun xs H Q => ∃ p ys, xs = [.ref p] ∧ ((SqL K H p ys ∧ ∀ l, H l = none → Q (.ref l) (upd H l (.tup ys))) ∨ (SqT K H p ys ∧ Q (.ref p) H))) := by
  subst h
  exact call_tuple_of
theorem pi_tupK {X : Cx} (K : PySem.W.Frag) {tg l : Expr} {tl : TE} (he : PE X l tl) (h : X.K = K := by rfl) : PI X tg l (iTup K tl) := by
  subst h
  exact pi_tup he
theorem pg_tupK {X : Cx} (K : PySem.W.Frag) {es : List Expr} {k n : Nat} {pos : Pos} {t : List V → L2.St → Hp → (L2.St → Hp → Prop) → Prop} (h : PG X (.Tuple es k pos) (gTup X.K n t)) (hk : X.K = K := by rfl) : PG X (.Tuple es k pos) (gTup K n t) := by
  subst hk
  exact h
theorem map_take1 {A C : Type} {g : A → C} {l : List A} {i : Nat} {p : A} (h : l[i]? = some p) : (l.take (i + 1)).map g = (l.take i).map g ++ [g p] := by
  rw [List.take_add_one, h, List.map_append]
  rfl
theorem movS_take {z y x : Int} {s : Sol} {i : Nat} {p : Int × Int × Layer} (h : s[i]? = some p) : movS z y x (s.take (i + 1)) = movS z y x (s.take i) ++ [(p.1 + z, p.2.1 + z, movL y x p.2.2)] := map_take1 h
theorem movL_take {y x : Int} {s : Layer} {i : Nat} {p : Int × Int × Row} (h : s[i]? = some p) : movL y x (s.take (i + 1)) = movL y x (s.take i) ++ [(p.1 + y, p.2.1 + y, movR x p.2.2)] := map_take1 h
theorem movR_take {x : Int} {s : Row} {i : Nat} {p : Int × Int} (h : s[i]? = some p) : movR x (s.take (i + 1)) = movR x (s.take i) ++ [(p.1 + x, p.2 + x)] := map_take1 h
section
variable {P : Program} {w : World} {K : PySem.W.Frag} {mg : Str → Option Value} {base : Heap} {ax : Addr}
def NMoved : List Str := ["solid", "by", "x", "y", "z", "found", "z0", "z1", "layer", "rows", "y0", "y1", "row", "x0", "x1"]
theorem scMoved : FnScope ["solid", "by", "x", "y", "z", "found", "z0", "z1", "layer", "rows", "y0", "y1", "row", "x0", "x1"] ["solid", "by"] (defScope sMoved) := ⟨rfl, rfl, rfl, by decide +kernel, rfl, by decide +kernel, by decide +kernel⟩
def movedBlk : Scope := { kind := .function, names := [(".0", .local), ("y0", .local), ("y1", .local), ("row", .local), ("tuple", .globalImplicit), ("x", .free), ("y", .free)], isGenerator := false, isCoroutine := false }
def spMoved (K : PySem.W.Frag) : Sp := fun vs H Q _ => ∃ (v b : V) (s : Sol) (k : P3), vs = [v, b] ∧ Tp K H v (solD s) ∧ Tp K H b (ptD k) ∧ SolOk s ∧ ∀ (H' : Hp) (x : V), Same H H' → Tp K H' x (solD (movS k.2.2 k.2.1 k.1 s)) → Q x H'
theorem ok_moved {f : Addr} {fd : FuncData} (F : Fun K "moved" "moved" sMoved f fd) (T : Txt K mg ax) : FnOk P w K mg base CX0 1 f fd ["solid", "by"] (spMoved K) := by
  refine F.ok scMoved (fun vs H Q E h => ?_) (fun cdv A outer s H vs Q E hr h => ?_)
  · obtain ⟨v, b, s, k, rfl, _⟩ := h
    rfl
  · obtain ⟨v, b, S, k, rfl, tv, tb, ok, q⟩ := h
    obtain ⟨a, xs, rfl, hx, al⟩ := Tp.inv tv
    obtain ⟨ab, rfl, hb⟩ := Tp.pt tb
    refine ⟨_, pss_cons (ps_asg (pv 1) (pg_tup rfl (pgs_cons (pg_name (i := 2) scMoved.nd rfl (.inr rfl)) (pgs_cons (pg_name (i := 3) scMoved.nd rfl (.inr rfl)) (pgs_cons (pg_name (i := 4) scMoved.nd rfl (.inl rfl)) pgs_nil)))))
      (pss_cons (ps_set (i := 5) scMoved.nd rfl (.inl rfl) (pe_lst pa_nil))
      (pss_cons (ps_for PassesOwn.never rfl (pi_tup (pv 0)) (pg_tup rfl (pgs_cons (pg_name (i := 6) scMoved.nd rfl (.inl rfl)) (pgs_cons (pg_name (i := 7) scMoved.nd rfl (.inl rfl)) (pgs_cons (pg_name (i := 8) scMoved.nd rfl (.inl rfl)) pgs_nil))))
        (pss_cons (ps_set (i := 9) scMoved.nd rfl (.inl rfl) (pe_callTy (call_tuple_ofK K) (by rfl) T.tuple (by decide +kernel) (pa_cons
            (pe_lc (own := [("y0", 10), ("y1", 11), ("row", 12)]) (g := gTup K 3 (gCons (gName 10) (gCons (gName 11) (gCons (gName 12) gNil)))) (tt := tYes) rfl scMoved.nd (pi_tup (pv 8)) (blkOk_by (N := ["solid", "by", "x", "y", "z", "found", "z0", "z1", "layer", "rows", "y0", "y1", "row", "x0", "x1"]) (sc := defScope sMoved) (by decide +kernel))
              (fun _ _ _ _ _ => pg_tup rfl (pgs_cons (pg_name (i := 10) scMoved.nd rfl (.inl rfl)) (pgs_cons (pg_name (i := 11) scMoved.nd rfl (.inl rfl)) (pgs_cons (pg_name (i := 12) scMoved.nd rfl (.inl rfl)) pgs_nil)))) (fun _ _ _ _ _ => pts_nil)
              (fun _ _ _ _ _ => pe_tup (pa_cons (pe_op op_add (pv 10) (pv 3)) (pa_cons (pe_op op_add (pv 11) (pv 3)) (pa_cons (pe_callTy (call_tuple_ofK K) (by rfl) T.tuple (by decide +kernel) (pa_cons
                (pe_lc (own := [("x0", 13), ("x1", 14)]) (g := gTup K 2 (gCons (gName 13) (gCons (gName 14) gNil))) (tt := tYes) rfl scMoved.nd (pi_tupK K (pv 12)) (blkOk_by (N := ["solid", "by", "x", "y", "z", "found", "z0", "z1", "layer", "rows", "y0", "y1", "row", "x0", "x1"]) (sc := relS movedBlk (defScope sMoved)) (by decide +kernel))
                  (fun _ _ _ _ _ => pg_tup rfl (pgs_cons (pg_name (i := 13) scMoved.nd rfl (.inl rfl)) (pgs_cons (pg_name (i := 14) scMoved.nd rfl (.inl rfl)) pgs_nil))) (fun _ _ _ _ _ => pts_nil)
                  (fun _ _ _ _ _ => pe_tup (pa_cons (pe_op op_add (pv 13) (pv 2)) (pa_cons (pe_op op_add (pv 14) (pv 2)) pa_nil)))) pa_nil)) pa_nil))))) pa_nil)))
        (pss_one (ps_expr (pe_bm PySem.F.plainAttrs_list PySem.F.slot_list_append PySem.F.type_list_append mt_append (pv 5) (pa_cons (pe_tup (pa_cons (pe_op op_add (pv 6) (pv 4)) (pa_cons (pe_op op_add (pv 7) (pv 4)) (pa_cons (pv 9) pa_nil)))) pa_nil))))))
      (pss_one (ps_ret (pe_callTy (call_tuple_ofK K) (by rfl) T.tuple (by decide +kernel) (pa_cons (pv 5) pa_nil)))))), ?_⟩
    -- x, y, z = by
    refine ⟨_, rfl, ab, _, rfl, hb, rfl, _, [_, _], rfl, _, [_], rfl, _, [], rfl, rfl, ?_⟩
    -- found = []
    refine ⟨Nat.zero_le _, fun l nl => ?_⟩
    have s1 : Same H (upd H l (.lst [])) := same_new nl
    have lenS := Ok.len ok
    refine ⟨.ref a, rfl, a, rfl, ⟨_, same_seqT s1 hx⟩, for_tup (K := K) (a := a) (xs := xs) (fun i σ H3 => ∃ (ys : List V) (y6 y7 y8 y9 : Option V), σ = [some (.ref a), some (.ref ab), some (.int k.1), some (.int k.2.1), some (.int k.2.2), some (.ref l), y6, y7, y8, y9, none, none, none, none, none] ∧ Same H H3 ∧ H3 l = some (.lst ys) ∧ TpAll K H3 ys ((movS k.2.2 k.2.1 k.1 (S.take i)).map (strD layD)))
      ⟨[], none, none, none, none, rfl, s1, upd_same, .nil⟩ (fun i σ H3 _ ⟨_, _, _, _, _, _, h, _⟩ => same_seqT h hx) ?_ ?_⟩
    · rintro i x σ H3 hi ⟨ys, y6, y7, y8, y9, rfl, s3, hl3, al3⟩
      obtain ⟨p, hp, tp⟩ := al.of' hi
      obtain ⟨t, z, rfl, st, tz⟩ := Tp.str tp
      obtain ⟨b, zs, rfl, hz, alz⟩ := Tp.inv tz
      have okp := (ok.each p (List.mem_of_getElem? hp)).2.2.1
      have lenL := Ok.len okp
      refine ⟨t, _, rfl, same_seqT s3 st, rfl, _, [_, _], rfl, _, [_], rfl, _, [], rfl, rfl, ?_⟩
      -- rows = tuple([..])
      refine ⟨_, rfl, b, rfl, ⟨_, same_seqT s3 hz⟩, fun D nD => ?_⟩
      have sD : Same H3 (upd H3 D (.lst [])) := same_new nD
      refine lc_it (walk_tup (K := K) (a := b) (xs := zs)) (fun j H5 => Same H3 H5 ∧ ∃ us, H5 D = some (.lst us) ∧ TpAll K H5 us ((movL k.2.1 k.1 (p.2.2.take j)).map (strD rowD)))
        ⟨sD, [], upd_same, .nil⟩ (fun j H5 _ ⟨h, _⟩ => same_seqT h (same_seqT s3 hz)) ?_ ?_
      · rintro j x2 H5 H5' hj ⟨s5, us, hD, al5⟩ ⟨e, hx2⟩
        subst e
        obtain ⟨r, hr', tr⟩ := alz.of' hx2
        obtain ⟨t2, z2, rfl, st2, tz2⟩ := Tp.str tr
        obtain ⟨c, ws, rfl, hc, alc⟩ := Tp.inv tz2
        have okr := (Ok.each okp r (List.mem_of_getElem? hr')).2.2.1
        have lenR := RowOk.len okr
        have s35 := s3.trans s5
        refine ⟨t2, _, rfl, same_seqT s35 st2, rfl, _, [_, _], rfl, _, [_], rfl, _, [], rfl, rfl, rfl, ?_⟩
        refine ⟨_, rfl, _, rfl, _, _, rfl, rfl, _, rfl, _, rfl, _, _, rfl, rfl, _, rfl, c, rfl, ⟨_, same_seqT s35 hc⟩, fun D2 nD2 => ?_⟩
        have sD2 : Same H5' (upd H5' D2 (.lst [])) := same_new nD2
        refine lc_it (walk_tup (K := K) (a := c) (xs := ws)) (fun m H6 => Same H5' H6 ∧ ∃ vs, H6 D2 = some (.lst vs) ∧ TpAll K H6 vs ((movR k.1 (r.2.2.take m)).map segD))
          ⟨sD2, [], upd_same, .nil⟩ (fun m H6 _ ⟨h, _⟩ => same_seqT h (same_seqT s35 hc)) ?_ ?_
        · rintro m x3 H6 H6' hm ⟨s6, vs, hD2, al6⟩ ⟨e, hx3⟩
          subst e
          obtain ⟨g, hg, tg⟩ := alc.of' hx3
          obtain ⟨t3, rfl, st3⟩ := Tp.seg tg
          have hm : m < ws.length := hm
          have hwl : ws.length = r.2.2.length := alc.len'
          refine ⟨t3, _, rfl, same_seqT (s35.trans s6) st3, rfl, _, [_], rfl, _, [], rfl, rfl, rfl, ?_⟩
          refine ⟨_, rfl, _, rfl, _, _, rfl, rfl, _, rfl, _, rfl, _, _, rfl, rfl, line2 _ _, fun u nu => ?_⟩
          have su := same_new (o := .tup [.int (g.1 + k.1), .int (g.2 + k.1)]) nu
          have d1 : Tp K _ (.ref u) (segD (g.1 + k.1, g.2 + k.1)) := Tp.new nu (.cons (.int _) (.cons (.int _) .nil))
          have hD2' := su _ _ hD2
          refine ⟨vs, hD2', small1000 ?_, ?_, vs ++ [.ref u], upd_same, ?_⟩
          · have h1 := al6.len'
            unfold movR at h1
            rw [List.length_map, List.length_take] at h1
            omega
          · exact fun b o e => by
              rw [upd_ne (ne_of_none e nD2)]
              exact su _ _ (s6 _ _ e)
          · rw [movR_take hg, List.map_append]
            exact ((al6.mono (TS.same su)).app (TpAll.one d1)).mono (TS.lst hD2')
        · rintro H6 ⟨s6, vs, hD2, al6⟩
          have hwl : ws.length = r.2.2.length := alc.len'
          rw [hwl, List.take_length] at al6
          refine ⟨D2, vs, rfl, .inl ⟨.inl (.inl hD2), fun tu ntu => ⟨line3 _ _ _, fun u nu => ?_⟩⟩⟩
          have q1 := same_new (o := .tup vs) ntu
          have q2 := same_new (o := .tup [.int (r.1 + k.2.1), .int (r.2.1 + k.2.1), .ref tu]) nu
          have sq := (s6.trans q1).trans q2
          have d1 : Tp K _ (.ref tu) (rowD (movR k.1 r.2.2)) := Tp.new ntu al6
          have d2 : Tp K _ (.ref u) (strD rowD (r.1 + k.2.1, r.2.1 + k.2.1, movR k.1 r.2.2)) := Tp.new nu (.cons (.int _) (.cons (.int _) (.cons d1 .nil)))
          have hD' := sq _ _ hD
          refine ⟨us, hD', small1000 ?_, ?_, us ++ [.ref u], upd_same, ?_⟩
          · have h1 := al5.len'
            have hj : j < zs.length := hj
            have hzl : zs.length = p.2.2.length := alz.len'
            unfold movL at h1
            rw [List.length_map, List.length_take] at h1
            omega
          · exact fun b o e => by
              rw [upd_ne (ne_of_none e nD)]
              exact sq _ _ (s5 _ _ e)
          · rw [movL_take hr', List.map_append]
            exact ((al5.mono (TS.same sq)).app (TpAll.one d2)).mono (TS.lst hD')
      · rintro H5 ⟨s5, us, hD, al5⟩
        have hzl : zs.length = p.2.2.length := alz.len'
        rw [hzl, List.take_length] at al5
        refine ⟨D, us, rfl, .inl ⟨.inl (.inl hD), fun tu ntu => ?_⟩⟩
        have q1 := same_new (o := .tup us) ntu
        have d1 : Tp K _ (.ref tu) (layD (movL k.2.1 k.1 p.2.2)) := Tp.new ntu al5
        have hl6 := q1 _ _ (s5 _ _ hl3)
        -- found.append((z0 + z, z1 + z, rows))
        refine ⟨_, rfl, .inl ⟨rfl, _, .inl (.inl hl6)⟩, _, rfl, _, rfl, _, _, rfl, rfl, _, rfl, _, rfl, _, _, rfl, rfl, _, rfl, line3 _ _ _, fun u nu => ?_⟩
        have q2 := same_new (o := .tup [.int (p.1 + k.2.2), .int (p.2.1 + k.2.2), .ref tu]) nu
        have d2 : Tp K _ (.ref u) (strD layD (p.1 + k.2.2, p.2.1 + k.2.2, movL k.2.1 k.1 p.2.2)) := Tp.new nu (.cons (.int _) (.cons (.int _) (.cons d1 .nil)))
        have sq := (s5.trans q1).trans q2
        have hl7 := q2 _ _ hl6
        refine ⟨l, ys, _, rfl, rfl, hl7, small1000 ?_, ?_⟩
        · have h1 := al3.len'
          unfold movS at h1
          rw [List.length_map, List.length_take] at h1
          omega
        · refine ⟨ys ++ [.ref u], _, _, _, _, rfl, same_at (s3.trans sq) nl, upd_same, ?_⟩
          rw [movS_take hp, List.map_append]
          exact ((al3.mono (TS.same sq)).app (TpAll.one d2)).mono (TS.lst hl7)
    · rintro σ H3 ⟨ys, y6, y7, y8, y9, rfl, s3, hl3, al3⟩
      have hxl : xs.length = S.length := al.len'
      rw [hxl, List.take_length] at al3
      refine ⟨_, rfl, l, ys, rfl, .inl ⟨.inl (.inl hl3), fun tu ntu => ?_⟩⟩
      exact q _ _ (s3.trans (same_new ntu)) (Tp.new ntu al3)
end
end K4
/-! C10_Sweep: swept, barred. -/
namespace K4
open PySem PySem.Spec PyProof.Rows L2

theorem pairs_take {g : Box → Box → Box} {bs ts : List Box} {i : Nat} {b : Box} (h : bs[i]? = some b) : pairs g (bs.take (i + 1)) ts = pairs g (bs.take i) ts ++ ts.map (g b) := by
  unfold pairs
  rw [List.take_add_one, h, List.flatMap_append]
  simp
theorem pairs_len {g : Box → Box → Box} {bs ts : List Box} : (pairs g bs ts).length = bs.length * ts.length := by
  unfold pairs
  exact len_flat fun b _ => by rw [List.length_map]
/-- the promise: the two solids, the boxes' corners stay near -/
def spPairs (K : PySem.W.Frag) (g : Box → Box → Box) (flip : Bool) : Sp := fun vs H Q _ => ∃ (v w : V) (s t : Sol), vs = (if flip then [w, v] else [v, w]) ∧ Tp K H v (solD s) ∧ Tp K H w (solD t) ∧ SolOk s ∧ SolOk t ∧ (boxes s).length * (boxes t).length ≤ 10000 ∧ (∀ c ∈ pairs g (boxes s) (boxes t), bdB c) ∧
  ∀ (u : Sol) (H' : Hp) (x : V), Same H H' → SolOf (pairs g (boxes s) (boxes t)) u → Tp K H' x (solD u) → Q x H'
section
variable {P : Program} {w : World} {K : PySem.W.Frag} {mg : Str → Option Value} {base : Heap} {ax : Addr}
variable {fE fK fR fS fL : Addr} {dE dK dR dS dL : FuncData}
/-- the defs over boxes -/
structure BDefs (K : PySem.W.Frag) (mg : Str → Option Value) (fU fO fB fX fY : Addr) (dU dO dB dX dY : FuncData) : Prop where
  FU : Fun K "union" "union" sUnion fU dU
  bU : Binds K dU ["one", "other"] []
  gU : mg "union" = some (.ref fU)
  FO : Fun K "union_of" "union_of" sUnionOf fO dO
  bO : Binds K dO ["solids"] []
  gO : mg "union_of" = some (.ref fO)
  FB : Fun K "box" "box" sBox fB dB
  bB : Binds K dB ["corner", "other"] []
  gB : mg "box" = some (.ref fB)
  FX : Fun K "boxes_of" "boxes_of" sBoxesOf fX dX
  bX : Binds K dX ["solid"] []
  gX : mg "boxes_of" = some (.ref fX)
  FY : Fun K "of_boxes" "of_boxes" sOfBoxes fY dY
  bY : Binds K dY ["boxes"] []
  gY : mg "of_boxes" = some (.ref fY)
variable {fU fO fB fX fY : Addr} {dU dO dB dX dY : FuncData}
theorem BDefs.ofBoxes (C : BDefs K mg fU fO fB fX fY dU dO dB dX dY) (D : Defs K mg fE fK fR fS fL dE dK dR dS dL) (T : Txt K mg ax) : FnOk P w K mg base CX0 8 fY dY ["boxes"] (spOfBoxes K) :=
  ok_OfBoxes C.FY C.FU C.bU C.gU C.FO C.bO C.gO C.FB C.bB C.gB D T
theorem scswept : FnScope ["lot", "tool", "found", "low", "high", "one", "other", "start", "axis"] ["lot", "tool"] (defScope sSwept) := ⟨rfl, rfl, rfl, by decide +kernel, rfl, by decide +kernel, by decide +kernel⟩
theorem ok_swept {f : Addr} {fd : FuncData} (F : Fun K "swept" "swept" sSwept f fd) (C : BDefs K mg fU fO fB fX fY dU dO dB dX dY) (D : Defs K mg fE fK fR fS fL dE dK dR dS dL) (T : Txt K mg ax) : FnOk P w K mg base CX0 9 f fd ["lot", "tool"] (spPairs K sweepB false) := by
  have GX : FnOk P w K mg base CX0 1 fX dX ["solid"] (spBoxesOf K) := ok_boxesOf C.FX T
  have GY : FnOk P w K mg base CX0 8 fY dY ["boxes"] (spOfBoxes K) := C.ofBoxes D T
  refine F.ok scswept (fun vs H Q E h => ?_) (fun cdv A outer s H vs Q E hr h => ?_)
  · obtain ⟨v, w', a, b, rfl, _⟩ := h
    rfl
  · obtain ⟨v, w', S1, S2, rfl, tv, tw, ok1, ok2, hcount, hbd, q⟩ := h
    have hr1 : Room 1 _ := hr.mono (by decide)
    refine ⟨_, pss_cons (ps_set (i := 2) scswept.nd rfl (.inl rfl) (pe_lst pa_nil))
      (pss_cons (ps_for PassesOwn.never rfl (pi_list (pe_call GX hr1 (by rfl) C.gX C.FX.kp C.bX .nil pass0 (pa_cons (pv 0) pa_nil))) (pg_tup rfl (pgs_cons (pg_name (i := 3) scswept.nd rfl (.inr rfl)) (pgs_cons (pg_name (i := 4) scswept.nd rfl (.inr rfl)) pgs_nil)))
        (pss_one (ps_for PassesOwn.never rfl (pi_list (pe_call GX hr1 (by rfl) C.gX C.FX.kp C.bX .nil pass0 (pa_cons (pv 1) pa_nil))) (pg_tup rfl (pgs_cons (pg_name (i := 5) scswept.nd rfl (.inr rfl)) (pgs_cons (pg_name (i := 6) scswept.nd rfl (.inr rfl)) pgs_nil)))
          (pss_cons (ps_set (i := 7) scswept.nd rfl (.inl rfl) (pe_callTy (call_tuple_ofK K) (by rfl) T.tuple (by decide +kernel) (pa_cons
              (pe_lc (own := [("axis", 8)]) (g := gName 8) (tt := tYes) rfl scswept.nd (pi_tup (pe_glob (v := .ref ax) (by rfl) T.axes rfl)) (blkOk_by (N := ["lot", "tool", "found", "low", "high", "one", "other", "start", "axis"]) (sc := defScope sSwept) (by decide +kernel))
                (fun _ _ _ _ _ => pg_name (i := 8) scswept.nd rfl (.inl rfl)) (fun _ _ _ _ _ => pts_nil)
                (fun _ _ _ _ _ => pe_op op_add (pe_ix (ix_tupK K) (pv 3) (pv 8) (fun _ _ => rfl)) (pe_ix (ix_tupK K) (pv 5) (pv 8) (fun _ _ => rfl)))) pa_nil)))
          (pss_one (ps_expr (pe_bm PySem.F.plainAttrs_list PySem.F.slot_list_append PySem.F.type_list_append mt_append (pv 2) (pa_cons (pe_tup (pa_cons (pv 7) (pa_cons (pe_callTy (call_tuple_ofK K) (by rfl) T.tuple (by decide +kernel) (pa_cons
              (pe_lc (own := [("axis", 8)]) (g := gName 8) (tt := tYes) rfl scswept.nd (pi_tup (pe_glob (v := .ref ax) (by rfl) T.axes rfl)) (blkOk_by (N := ["lot", "tool", "found", "low", "high", "one", "other", "start", "axis"]) (sc := defScope sSwept) (by decide +kernel))
                (fun _ _ _ _ _ => pg_name (i := 8) scswept.nd rfl (.inl rfl)) (fun _ _ _ _ _ => pts_nil)
                (fun _ _ _ _ _ => pe_op op_add (pe_op op_sub (pe_ix (ix_tupK K) (pv 4) (pv 8) (fun _ _ => rfl)) pe_int) (pe_ix (ix_tupK K) (pv 6) (pv 8) (fun _ _ => rfl)))) pa_nil)) pa_nil))) pa_nil))))))))
      (pss_one (ps_ret (pe_call GY hr (by rfl) C.gY C.FY.kp C.bY .nil pass0 (pa_cons (pv 2) pa_nil))))), ?_⟩
    -- found = []
    refine ⟨Nat.zero_le _, fun l nl => ?_⟩
    have s1 : Same H (upd H l (.lst [])) := same_new nl
    refine ⟨_, rfl, v, S1, rfl, tv.mono (TS.same s1), ok1, fun H1 l1 zs s2 nl1 hl1 al1 => ?_⟩
    have s12 := s1.trans s2
    have hl0 := s2 _ _ upd_same
    have hl1l : l1 ≠ l := fun z => by
      rw [z, upd_same] at nl1
      cases nl1
    have hz1 : zs.length = (boxes S1).length := al1.len'
    have nl1H : H l1 = none := by
      rw [upd_ne hl1l] at nl1
      exact nl1
    refine ⟨l1, rfl, ⟨_, .inl (.inl hl1)⟩, for_list (K := K) (a := l1) (xs := zs) (fun i σ H3 => ∃ (ys : List V) (y3 y4 y5 y6 y7 : Option V), σ = [some v, some w', some (.ref l), y3, y4, y5, y6, y7, none] ∧ (∀ b o, H1 b = some o → b ≠ l → H3 b = some o) ∧ H3 l = some (.lst ys) ∧ TS K H1 H3 ∧ TpAll K H3 ys ((pairs sweepB ((boxes S1).take i) (boxes S2)).map boxD))
      ⟨[], none, none, none, none, none, rfl, fun b o e _ => e, hl0, TS.refl, .nil⟩ (fun i σ H3 _ ⟨_, _, _, _, _, _, _, h, _⟩ => .inl (.inl (h _ _ hl1 hl1l))) ?_ ?_⟩
    · rintro i x σ H3 hi ⟨ys, y3, y4, y5, y6, y7, rfl, k3, hl3, ts3, al3⟩
      obtain ⟨b, hb, tb⟩ := al1.of' hi
      obtain ⟨t, tl, tg, rfl, st, stl, stg⟩ := Tp.box tb
      refine ⟨t, _, rfl, ts3 _ _ st, rfl, _, [_], rfl, _, [], rfl, rfl, ?_⟩
      -- boxes_of the second
      have tsw : TS K H H3 := (TS.same s12).trans ts3
      refine ⟨_, rfl, w', S2, rfl, tw.mono tsw, ok2, fun H4 l2 zs2 s34 nl2 hl2 al2 => ?_⟩
      have hz2 : zs2.length = (boxes S2).length := al2.len'
      have hl4 := s34 _ _ hl3
      have hl2l : l2 ≠ l := (ne_of_none hl3 nl2).symm
      have cnt : (pairs sweepB ((boxes S1).take i) (boxes S2)).length + (boxes S2).length ≤ 10000 := by
        have h1 : i < (boxes S1).length := (List.getElem?_eq_some_iff.mp hb).1
        have h2 : (i + 1) * (boxes S2).length ≤ (boxes S1).length * (boxes S2).length := Nat.mul_le_mul_right _ h1
        rw [pairs_len, List.length_take, Nat.min_eq_left (by omega)]
        rw [Nat.succ_mul] at h2
        omega
      refine ⟨l2, rfl, ⟨_, .inl (.inl hl2)⟩, for_list (K := K) (a := l2) (xs := zs2) (fun j σ H5 => ∃ (ys : List V) (y5 y6 y7 : Option V), σ = [some v, some w', some (.ref l), some (.ref tl), some (.ref tg), y5, y6, y7, none] ∧ (∀ b o, H4 b = some o → b ≠ l → H5 b = some o) ∧ H5 l = some (.lst ys) ∧ TS K H4 H5 ∧ TpAll K H5 ys ((pairs sweepB ((boxes S1).take i) (boxes S2) ++ ((boxes S2).take j).map (sweepB b)).map boxD))
        ⟨ys, y5, y6, y7, rfl, fun b o e _ => e, hl4, TS.refl, by
          have e : ((boxes S2).take 0).map (sweepB b) = [] := rfl
          rw [e, List.append_nil]
          exact al3.mono (TS.same s34)⟩ (fun j σ H5 _ ⟨_, _, _, _, _, h, _⟩ => .inl (.inl (h _ _ hl2 hl2l))) ?_ ?_⟩
      · rintro j x2 σ H5 hj ⟨ys5, z5, z6, z7, rfl, k5, hl5, ts5, al5⟩
        obtain ⟨c, hc, tc⟩ := al2.of' hj
        obtain ⟨t2, tl2, tg2, rfl, st2, stl2, stg2⟩ := Tp.box tc
        have hjl : j < (boxes S2).length := (List.getElem?_eq_some_iff.mp hc).1
        have ts35 : TS K H1 H5 := (ts3.trans (TS.same s34)).trans ts5
        have lo := ts35 _ _ stl
        have hi' := ts35 _ _ stg
        have lo2 := ts5 _ _ stl2
        have hi2 := ts5 _ _ stg2
        refine ⟨t2, _, rfl, ts5 _ _ st2, rfl, _, [_], rfl, _, [], rfl, rfl, ?_⟩
        -- start = tuple([..])
        refine ⟨_, rfl, ⟨_, T.axT H5⟩, fun D1 nD1 => ?_⟩
        refine lc_axes T.axT (.int (sweepB b c).1.1) (.int (sweepB b c).1.2.1) (.int (sweepB b c).1.2.2) nD1
          (fun H' Q' s' q' => ⟨_, rfl, _, rfl, _, _, _, _, rfl, rfl, same_seqT s' lo, atI_nat (j := 0) rfl, _, rfl, _, rfl, _, _, _, _, rfl, rfl, same_seqT s' lo2, atI_nat (j := 0) rfl, _, _, rfl, rfl, q'⟩)
          (fun H' Q' s' q' => ⟨_, rfl, _, rfl, _, _, _, _, rfl, rfl, same_seqT s' lo, atI_nat (j := 1) rfl, _, rfl, _, rfl, _, _, _, _, rfl, rfl, same_seqT s' lo2, atI_nat (j := 1) rfl, _, _, rfl, rfl, q'⟩)
          (fun H' Q' s' q' => ⟨_, rfl, _, rfl, _, _, _, _, rfl, rfl, same_seqT s' lo, atI_nat (j := 2) rfl, _, rfl, _, rfl, _, _, _, _, rfl, rfl, same_seqT s' lo2, atI_nat (j := 2) rfl, _, _, rfl, rfl, q'⟩)
          fun H6 s6 hD1 => ?_
        refine ⟨D1, _, rfl, .inl ⟨.inl (.inl hD1), fun u1 n1 => ?_⟩⟩
        have q1 := same_new (o := .tup [.int (sweepB b c).1.1, .int (sweepB b c).1.2.1, .int (sweepB b c).1.2.2]) n1
        have d1 : Tp K _ (.ref u1) (ptD (sweepB b c).1) := Tp.new n1 (.cons (.int _) (.cons (.int _) (.cons (.int _) .nil)))
        have s61 := s6.trans q1
        have hl6 := s61 _ _ hl5
        generalize hH7 : upd H6 u1 (.tup [.int (sweepB b c).1.1, .int (sweepB b c).1.2.1, .int (sweepB b c).1.2.2]) = H7 at *
        -- found.append
        refine ⟨_, rfl, .inl ⟨rfl, _, .inl (.inl hl6)⟩, _, rfl, _, rfl, ⟨_, T.axT H7⟩, fun D2 nD2 => ?_⟩
        refine lc_axes T.axT (.int (sweepB b c).2.1) (.int (sweepB b c).2.2.1) (.int (sweepB b c).2.2.2) nD2
          (fun H' Q' s' q' => ⟨_, rfl, _, rfl, _, _, _, _, rfl, rfl, same_seqT s' (same_seqT s61 hi'), atI_nat (j := 0) rfl, _, _, rfl, rfl, _, rfl, _, rfl, _, _, _, _, rfl, rfl, same_seqT s' (same_seqT s61 hi2), atI_nat (j := 0) rfl, _, _, rfl, rfl, q'⟩)
          (fun H' Q' s' q' => ⟨_, rfl, _, rfl, _, _, _, _, rfl, rfl, same_seqT s' (same_seqT s61 hi'), atI_nat (j := 1) rfl, _, _, rfl, rfl, _, rfl, _, rfl, _, _, _, _, rfl, rfl, same_seqT s' (same_seqT s61 hi2), atI_nat (j := 1) rfl, _, _, rfl, rfl, q'⟩)
          (fun H' Q' s' q' => ⟨_, rfl, _, rfl, _, _, _, _, rfl, rfl, same_seqT s' (same_seqT s61 hi'), atI_nat (j := 2) rfl, _, _, rfl, rfl, _, rfl, _, rfl, _, _, _, _, rfl, rfl, same_seqT s' (same_seqT s61 hi2), atI_nat (j := 2) rfl, _, _, rfl, rfl, q'⟩)
          fun H8 s8 hD2 => ?_
        refine ⟨D2, _, rfl, .inl ⟨.inl (.inl hD2), fun u2 n2 => ⟨line2 _ _, fun u3 n3 => ?_⟩⟩⟩
        have q2 := same_new (o := .tup [.int (sweepB b c).2.1, .int (sweepB b c).2.2.1, .int (sweepB b c).2.2.2]) n2
        have q3 := same_new (o := .tup [.ref u1, .ref u2]) n3
        have d2 : Tp K _ (.ref u2) (ptD (sweepB b c).2) := Tp.new n2 (.cons (.int _) (.cons (.int _) (.cons (.int _) .nil)))
        have d3 : Tp K _ (.ref u3) (boxD (sweepB b c)) := Tp.new n3 (.cons ((d1.mono (TS.same s8)).mono (TS.same q2)) (.cons d2 .nil))
        have sq := ((s61.trans s8).trans q2).trans q3
        have hl9 := sq _ _ hl5
        refine ⟨l, ys5, _, rfl, rfl, hl9, line10k ?_, ?_⟩
        · have h1 := al5.len'
          rw [List.length_append, List.length_map, List.length_take] at h1
          omega
        · have tsl := TS.lst (K := K) (o := .lst (ys5 ++ [.ref u3])) hl9
          refine ⟨ys5 ++ [.ref u3], _, _, _, rfl, fun b' o e hne => ?_, upd_same, (ts5.trans (TS.same sq)).trans tsl, ?_⟩
          · rw [upd_ne hne]
            exact sq _ _ (k5 _ _ e hne)
          · rw [map_take1 hc, ← List.append_assoc, List.map_append]
            exact ((al5.mono (TS.same sq)).app (TpAll.one d3)).mono tsl
      · rintro σ H5 ⟨ys5, z5, z6, z7, rfl, k5, hl5, ts5, al5⟩
        rw [hz2, List.take_length, ← pairs_take hb] at al5
        exact ⟨ys5, _, _, _, _, _, rfl, fun b' o e hne => k5 _ _ (s34 _ _ (k3 _ _ e hne)) hne, hl5, (ts3.trans (TS.same s34)).trans ts5, al5⟩
    · rintro σ H3 ⟨ys, y3, y4, y5, y6, y7, rfl, k3, hl3, ts3, al3⟩
      rw [hz1, List.take_length] at al3
      have s13 : Same H H3 := fun b o e => k3 _ _ (s12 _ _ e) (ne_of_none e nl)
      refine ⟨_, rfl, l, ys, _, rfl, .inl (.inl hl3), al3, hbd, by rw [pairs_len]; exact hcount, fun u H4 x s4 hu ht => q u H4 x (s13.trans s4) hu ht⟩
theorem scbarred : FnScope ["tool", "solid", "found", "low", "high", "one", "other", "start", "axis"] ["tool", "solid"] (defScope sBarred) := ⟨rfl, rfl, rfl, by decide +kernel, rfl, by decide +kernel, by decide +kernel⟩
theorem ok_barred {f : Addr} {fd : FuncData} (F : Fun K "barred" "barred" sBarred f fd) (C : BDefs K mg fU fO fB fX fY dU dO dB dX dY) (D : Defs K mg fE fK fR fS fL dE dK dR dS dL) (T : Txt K mg ax) : FnOk P w K mg base CX0 9 f fd ["tool", "solid"] (spPairs K barB true) := by
  have GX : FnOk P w K mg base CX0 1 fX dX ["solid"] (spBoxesOf K) := ok_boxesOf C.FX T
  have GY : FnOk P w K mg base CX0 8 fY dY ["boxes"] (spOfBoxes K) := C.ofBoxes D T
  refine F.ok scbarred (fun vs H Q E h => ?_) (fun cdv A outer s H vs Q E hr h => ?_)
  · obtain ⟨v, w', a, b, rfl, _⟩ := h
    rfl
  · obtain ⟨v, w', S1, S2, rfl, tv, tw, ok1, ok2, hcount, hbd, q⟩ := h
    have hr1 : Room 1 _ := hr.mono (by decide)
    refine ⟨_, pss_cons (ps_set (i := 2) scbarred.nd rfl (.inl rfl) (pe_lst pa_nil))
      (pss_cons (ps_for PassesOwn.never rfl (pi_list (pe_call GX hr1 (by rfl) C.gX C.FX.kp C.bX .nil pass0 (pa_cons (pv 1) pa_nil))) (pg_tup rfl (pgs_cons (pg_name (i := 3) scbarred.nd rfl (.inr rfl)) (pgs_cons (pg_name (i := 4) scbarred.nd rfl (.inr rfl)) pgs_nil)))
        (pss_one (ps_for PassesOwn.never rfl (pi_list (pe_call GX hr1 (by rfl) C.gX C.FX.kp C.bX .nil pass0 (pa_cons (pv 0) pa_nil))) (pg_tup rfl (pgs_cons (pg_name (i := 5) scbarred.nd rfl (.inr rfl)) (pgs_cons (pg_name (i := 6) scbarred.nd rfl (.inr rfl)) pgs_nil)))
          (pss_cons (ps_set (i := 7) scbarred.nd rfl (.inl rfl) (pe_callTy (call_tuple_ofK K) (by rfl) T.tuple (by decide +kernel) (pa_cons
              (pe_lc (own := [("axis", 8)]) (g := gName 8) (tt := tYes) rfl scbarred.nd (pi_tup (pe_glob (v := .ref ax) (by rfl) T.axes rfl)) (blkOk_by (N := ["tool", "solid", "found", "low", "high", "one", "other", "start", "axis"]) (sc := defScope sBarred) (by decide +kernel))
                (fun _ _ _ _ _ => pg_name (i := 8) scbarred.nd rfl (.inl rfl)) (fun _ _ _ _ _ => pts_nil)
                (fun _ _ _ _ _ => pe_op op_add (pe_op op_sub (pe_ix (ix_tupK K) (pv 3) (pv 8) (fun _ _ => rfl)) (pe_ix (ix_tupK K) (pv 6) (pv 8) (fun _ _ => rfl))) pe_int)) pa_nil)))
          (pss_one (ps_expr (pe_bm PySem.F.plainAttrs_list PySem.F.slot_list_append PySem.F.type_list_append mt_append (pv 2) (pa_cons (pe_tup (pa_cons (pv 7) (pa_cons (pe_callTy (call_tuple_ofK K) (by rfl) T.tuple (by decide +kernel) (pa_cons
              (pe_lc (own := [("axis", 8)]) (g := gName 8) (tt := tYes) rfl scbarred.nd (pi_tup (pe_glob (v := .ref ax) (by rfl) T.axes rfl)) (blkOk_by (N := ["tool", "solid", "found", "low", "high", "one", "other", "start", "axis"]) (sc := defScope sBarred) (by decide +kernel))
                (fun _ _ _ _ _ => pg_name (i := 8) scbarred.nd rfl (.inl rfl)) (fun _ _ _ _ _ => pts_nil)
                (fun _ _ _ _ _ => pe_op op_sub (pe_ix (ix_tupK K) (pv 4) (pv 8) (fun _ _ => rfl)) (pe_ix (ix_tupK K) (pv 5) (pv 8) (fun _ _ => rfl)))) pa_nil)) pa_nil))) pa_nil))))))))
      (pss_one (ps_ret (pe_call GY hr (by rfl) C.gY C.FY.kp C.bY .nil pass0 (pa_cons (pv 2) pa_nil))))), ?_⟩
    -- found = []
    refine ⟨Nat.zero_le _, fun l nl => ?_⟩
    have s1 : Same H (upd H l (.lst [])) := same_new nl
    refine ⟨_, rfl, v, S1, rfl, tv.mono (TS.same s1), ok1, fun H1 l1 zs s2 nl1 hl1 al1 => ?_⟩
    have s12 := s1.trans s2
    have hl0 := s2 _ _ upd_same
    have hl1l : l1 ≠ l := fun z => by
      rw [z, upd_same] at nl1
      cases nl1
    have hz1 : zs.length = (boxes S1).length := al1.len'
    have nl1H : H l1 = none := by
      rw [upd_ne hl1l] at nl1
      exact nl1
    refine ⟨l1, rfl, ⟨_, .inl (.inl hl1)⟩, for_list (K := K) (a := l1) (xs := zs) (fun i σ H3 => ∃ (ys : List V) (y3 y4 y5 y6 y7 : Option V), σ = [some w', some v, some (.ref l), y3, y4, y5, y6, y7, none] ∧ (∀ b o, H1 b = some o → b ≠ l → H3 b = some o) ∧ H3 l = some (.lst ys) ∧ TS K H1 H3 ∧ TpAll K H3 ys ((pairs barB ((boxes S1).take i) (boxes S2)).map boxD))
      ⟨[], none, none, none, none, none, rfl, fun b o e _ => e, hl0, TS.refl, .nil⟩ (fun i σ H3 _ ⟨_, _, _, _, _, _, _, h, _⟩ => .inl (.inl (h _ _ hl1 hl1l))) ?_ ?_⟩
    · rintro i x σ H3 hi ⟨ys, y3, y4, y5, y6, y7, rfl, k3, hl3, ts3, al3⟩
      obtain ⟨b, hb, tb⟩ := al1.of' hi
      obtain ⟨t, tl, tg, rfl, st, stl, stg⟩ := Tp.box tb
      refine ⟨t, _, rfl, ts3 _ _ st, rfl, _, [_], rfl, _, [], rfl, rfl, ?_⟩
      -- boxes_of the second
      have tsw : TS K H H3 := (TS.same s12).trans ts3
      refine ⟨_, rfl, w', S2, rfl, tw.mono tsw, ok2, fun H4 l2 zs2 s34 nl2 hl2 al2 => ?_⟩
      have hz2 : zs2.length = (boxes S2).length := al2.len'
      have hl4 := s34 _ _ hl3
      have hl2l : l2 ≠ l := (ne_of_none hl3 nl2).symm
      have cnt : (pairs barB ((boxes S1).take i) (boxes S2)).length + (boxes S2).length ≤ 10000 := by
        have h1 : i < (boxes S1).length := (List.getElem?_eq_some_iff.mp hb).1
        have h2 : (i + 1) * (boxes S2).length ≤ (boxes S1).length * (boxes S2).length := Nat.mul_le_mul_right _ h1
        rw [pairs_len, List.length_take, Nat.min_eq_left (by omega)]
        rw [Nat.succ_mul] at h2
        omega
      refine ⟨l2, rfl, ⟨_, .inl (.inl hl2)⟩, for_list (K := K) (a := l2) (xs := zs2) (fun j σ H5 => ∃ (ys : List V) (y5 y6 y7 : Option V), σ = [some w', some v, some (.ref l), some (.ref tl), some (.ref tg), y5, y6, y7, none] ∧ (∀ b o, H4 b = some o → b ≠ l → H5 b = some o) ∧ H5 l = some (.lst ys) ∧ TS K H4 H5 ∧ TpAll K H5 ys ((pairs barB ((boxes S1).take i) (boxes S2) ++ ((boxes S2).take j).map (barB b)).map boxD))
        ⟨ys, y5, y6, y7, rfl, fun b o e _ => e, hl4, TS.refl, by
          have e : ((boxes S2).take 0).map (barB b) = [] := rfl
          rw [e, List.append_nil]
          exact al3.mono (TS.same s34)⟩ (fun j σ H5 _ ⟨_, _, _, _, _, h, _⟩ => .inl (.inl (h _ _ hl2 hl2l))) ?_ ?_⟩
      · rintro j x2 σ H5 hj ⟨ys5, z5, z6, z7, rfl, k5, hl5, ts5, al5⟩
        obtain ⟨c, hc, tc⟩ := al2.of' hj
        obtain ⟨t2, tl2, tg2, rfl, st2, stl2, stg2⟩ := Tp.box tc
        have hjl : j < (boxes S2).length := (List.getElem?_eq_some_iff.mp hc).1
        have ts35 : TS K H1 H5 := (ts3.trans (TS.same s34)).trans ts5
        have lo := ts35 _ _ stl
        have hi' := ts35 _ _ stg
        have lo2 := ts5 _ _ stl2
        have hi2 := ts5 _ _ stg2
        refine ⟨t2, _, rfl, ts5 _ _ st2, rfl, _, [_], rfl, _, [], rfl, rfl, ?_⟩
        -- start = tuple([..])
        refine ⟨_, rfl, ⟨_, T.axT H5⟩, fun D1 nD1 => ?_⟩
        refine lc_axes T.axT (.int (barB b c).1.1) (.int (barB b c).1.2.1) (.int (barB b c).1.2.2) nD1
          (fun H' Q' s' q' => ⟨_, rfl, _, rfl, _, _, _, _, rfl, rfl, same_seqT s' lo, atI_nat (j := 0) rfl, _, rfl, _, rfl, _, _, _, _, rfl, rfl, same_seqT s' hi2, atI_nat (j := 0) rfl, _, _, rfl, rfl, _, _, rfl, rfl, q'⟩)
          (fun H' Q' s' q' => ⟨_, rfl, _, rfl, _, _, _, _, rfl, rfl, same_seqT s' lo, atI_nat (j := 1) rfl, _, rfl, _, rfl, _, _, _, _, rfl, rfl, same_seqT s' hi2, atI_nat (j := 1) rfl, _, _, rfl, rfl, _, _, rfl, rfl, q'⟩)
          (fun H' Q' s' q' => ⟨_, rfl, _, rfl, _, _, _, _, rfl, rfl, same_seqT s' lo, atI_nat (j := 2) rfl, _, rfl, _, rfl, _, _, _, _, rfl, rfl, same_seqT s' hi2, atI_nat (j := 2) rfl, _, _, rfl, rfl, _, _, rfl, rfl, q'⟩)
          fun H6 s6 hD1 => ?_
        refine ⟨D1, _, rfl, .inl ⟨.inl (.inl hD1), fun u1 n1 => ?_⟩⟩
        have q1 := same_new (o := .tup [.int (barB b c).1.1, .int (barB b c).1.2.1, .int (barB b c).1.2.2]) n1
        have d1 : Tp K _ (.ref u1) (ptD (barB b c).1) := Tp.new n1 (.cons (.int _) (.cons (.int _) (.cons (.int _) .nil)))
        have s61 := s6.trans q1
        have hl6 := s61 _ _ hl5
        generalize hH7 : upd H6 u1 (.tup [.int (barB b c).1.1, .int (barB b c).1.2.1, .int (barB b c).1.2.2]) = H7 at *
        -- found.append
        refine ⟨_, rfl, .inl ⟨rfl, _, .inl (.inl hl6)⟩, _, rfl, _, rfl, ⟨_, T.axT H7⟩, fun D2 nD2 => ?_⟩
        refine lc_axes T.axT (.int (barB b c).2.1) (.int (barB b c).2.2.1) (.int (barB b c).2.2.2) nD2
          (fun H' Q' s' q' => ⟨_, rfl, _, rfl, _, _, _, _, rfl, rfl, same_seqT s' (same_seqT s61 hi'), atI_nat (j := 0) rfl, _, rfl, _, rfl, _, _, _, _, rfl, rfl, same_seqT s' (same_seqT s61 lo2), atI_nat (j := 0) rfl, _, _, rfl, rfl, q'⟩)
          (fun H' Q' s' q' => ⟨_, rfl, _, rfl, _, _, _, _, rfl, rfl, same_seqT s' (same_seqT s61 hi'), atI_nat (j := 1) rfl, _, rfl, _, rfl, _, _, _, _, rfl, rfl, same_seqT s' (same_seqT s61 lo2), atI_nat (j := 1) rfl, _, _, rfl, rfl, q'⟩)
          (fun H' Q' s' q' => ⟨_, rfl, _, rfl, _, _, _, _, rfl, rfl, same_seqT s' (same_seqT s61 hi'), atI_nat (j := 2) rfl, _, rfl, _, rfl, _, _, _, _, rfl, rfl, same_seqT s' (same_seqT s61 lo2), atI_nat (j := 2) rfl, _, _, rfl, rfl, q'⟩)
          fun H8 s8 hD2 => ?_
        refine ⟨D2, _, rfl, .inl ⟨.inl (.inl hD2), fun u2 n2 => ⟨line2 _ _, fun u3 n3 => ?_⟩⟩⟩
        have q2 := same_new (o := .tup [.int (barB b c).2.1, .int (barB b c).2.2.1, .int (barB b c).2.2.2]) n2
        have q3 := same_new (o := .tup [.ref u1, .ref u2]) n3
        have d2 : Tp K _ (.ref u2) (ptD (barB b c).2) := Tp.new n2 (.cons (.int _) (.cons (.int _) (.cons (.int _) .nil)))
        have d3 : Tp K _ (.ref u3) (boxD (barB b c)) := Tp.new n3 (.cons ((d1.mono (TS.same s8)).mono (TS.same q2)) (.cons d2 .nil))
        have sq := ((s61.trans s8).trans q2).trans q3
        have hl9 := sq _ _ hl5
        refine ⟨l, ys5, _, rfl, rfl, hl9, line10k ?_, ?_⟩
        · have h1 := al5.len'
          rw [List.length_append, List.length_map, List.length_take] at h1
          omega
        · have tsl := TS.lst (K := K) (o := .lst (ys5 ++ [.ref u3])) hl9
          refine ⟨ys5 ++ [.ref u3], _, _, _, rfl, fun b' o e hne => ?_, upd_same, (ts5.trans (TS.same sq)).trans tsl, ?_⟩
          · rw [upd_ne hne]
            exact sq _ _ (k5 _ _ e hne)
          · rw [map_take1 hc, ← List.append_assoc, List.map_append]
            exact ((al5.mono (TS.same sq)).app (TpAll.one d3)).mono tsl
      · rintro σ H5 ⟨ys5, z5, z6, z7, rfl, k5, hl5, ts5, al5⟩
        rw [hz2, List.take_length, ← pairs_take hb] at al5
        exact ⟨ys5, _, _, _, _, _, rfl, fun b' o e hne => k5 _ _ (s34 _ _ (k3 _ _ e hne)) hne, hl5, (ts3.trans (TS.same s34)).trans ts5, al5⟩
    · rintro σ H3 ⟨ys, y3, y4, y5, y6, y7, rfl, k3, hl3, ts3, al3⟩
      rw [hz1, List.take_length] at al3
      have s13 : Same H H3 := fun b o e => k3 _ _ (s12 _ _ e) (ne_of_none e nl)
      refine ⟨_, rfl, l, ys, _, rfl, .inl (.inl hl3), al3, hbd, by rw [pairs_len]; exact hcount, fun u H4 x s4 hu ht => q u H4 x (s13.trans s4) hu ht⟩
end
end K4
/-! C11_Neigh: neighbours. -/
namespace K4
open PySem PySem.Spec PyProof.Rows L2

theorem el_if {K : PySem.W.Frag} {σ : L2.St} {H : Hp} {Q : VK} {a b c : Nat} {n j v v' : Int} {t : Addr} {xs : List V} (op : Int → Int → Int) (ha : σ[a]? = some (some (.int n))) (hb : σ[b]? = some (some (.int j))) (hc : σ[c]? = some (some (.ref t))) (hs : SqT K H t xs) (hx : atI xs n = some (.int v))
    (hv : v' = if n = j then op v 1 else v) (q : Q (.int v') H) :
    tIf (tTest (tOp rEq (tVar a) (tVar b))) (tOp (rI0 fun i j => .int (op i j)) (tOp (rIxT K) (tVar c) (tVar a)) (tC (.int 1))) (tOp (rIxT K) (tVar c) (tVar a)) σ H Q := by
  refine ⟨_, ha, _, hb, rfl, _, rfl, ?_⟩
  by_cases e : n = j
  · rw [decide_eq_true (show V.int n = V.int j by rw [e])]
    rw [if_pos e] at hv
    subst hv
    exact iteT ⟨_, hc, _, ha, t, xs, n, _, rfl, rfl, hs, hx, _, _, rfl, rfl, q⟩
  · rw [decide_eq_false (show ¬ V.int n = V.int j from fun z => e (V.int.inj z))]
    rw [if_neg e] at hv
    subst hv
    exact iteF ⟨_, hc, _, ha, t, xs, n, _, rfl, rfl, hs, hx, q⟩
theorem grows_take {bs : List Box} {i : Nat} {b : Box} (h : bs[i]? = some b) : (bs.take (i + 1)).flatMap grows = (bs.take i).flatMap grows ++ grows b := by
  rw [List.take_add_one, h, List.flatMap_append]
  simp
theorem grows_len (bs : List Box) : (bs.flatMap grows).length = bs.length * 3 := len_flat fun b _ => rfl
def spNeigh (K : PySem.W.Frag) : Sp := fun vs H Q _ => ∃ (v : V) (s : Sol), vs = [v] ∧ Tp K H v (solD s) ∧ SolOk s ∧ (boxes s).length ≤ 2000 ∧ (∀ c ∈ nbBoxes (boxes s), bdB c) ∧
  ∀ (u : Sol) (H' : Hp) (x : V), Same H H' → SolOf (nbBoxes (boxes s)) u → Tp K H' x (solD u) → Q x H'
section
variable {P : Program} {w : World} {K : PySem.W.Frag} {mg : Str → Option Value} {base : Heap} {ax : Addr}
variable {fE fK fR fS fL : Addr} {dE dK dR dS dL : FuncData}
variable {fU fO fB fX fY : Addr} {dU dO dB dX dY : FuncData}
theorem scNeigh : FnScope ["lot", "found", "low", "high", "axis", "start", "at"] ["lot"] (defScope sNeigh) := ⟨rfl, rfl, rfl, by decide +kernel, rfl, by decide +kernel, by decide +kernel⟩
theorem ok_neigh {f : Addr} {fd : FuncData} (F : Fun K "neighbours" "neighbours" sNeigh f fd) (C : BDefs K mg fU fO fB fX fY dU dO dB dX dY) (D : Defs K mg fE fK fR fS fL dE dK dR dS dL) (T : Txt K mg ax) : FnOk P w K mg base CX0 9 f fd ["lot"] (spNeigh K) := by
  have GX : FnOk P w K mg base CX0 1 fX dX ["solid"] (spBoxesOf K) := ok_boxesOf C.FX T
  have GY : FnOk P w K mg base CX0 8 fY dY ["boxes"] (spOfBoxes K) := C.ofBoxes D T
  refine F.ok scNeigh (fun vs H Q E h => ?_) (fun cdv A outer s H vs Q E hr h => ?_)
  · obtain ⟨v, s, rfl, _⟩ := h
    rfl
  · obtain ⟨v, S, rfl, tv, ok, hcount, hbd, q⟩ := h
    have hr1 : Room 1 _ := hr.mono (by decide)
    refine ⟨_, pss_cons (ps_set (i := 1) scNeigh.nd rfl (.inl rfl) (pe_call GX hr1 (by rfl) C.gX C.FX.kp C.bX .nil pass0 (pa_cons (pv 0) pa_nil)))
      (pss_cons (ps_for PassesOwn.never rfl (pi_list (pe_call GX hr1 (by rfl) C.gX C.FX.kp C.bX .nil pass0 (pa_cons (pv 0) pa_nil))) (pg_tup rfl (pgs_cons (pg_name (i := 2) scNeigh.nd rfl (.inr rfl)) (pgs_cons (pg_name (i := 3) scNeigh.nd rfl (.inr rfl)) pgs_nil)))
        (pss_one (ps_for PassesOwn.never rfl (pi_tup (pe_glob (v := .ref ax) (by rfl) T.axes rfl)) (pg_name (i := 4) scNeigh.nd rfl (.inr rfl))
          (pss_cons (ps_set (i := 5) scNeigh.nd rfl (.inl rfl) (pe_callTy (call_tuple_ofK K) (by rfl) T.tuple (by decide +kernel) (pa_cons
              (pe_lc (own := [("at", 6)]) (g := gName 6) (tt := tYes) rfl scNeigh.nd (pi_tup (pe_glob (v := .ref ax) (by rfl) T.axes rfl)) (blkOk_by (N := ["lot", "found", "low", "high", "axis", "start", "at"]) (sc := defScope sNeigh) (by decide +kernel))
                (fun _ _ _ _ _ => pg_name (i := 6) scNeigh.nd rfl (.inl rfl)) (fun _ _ _ _ _ => pts_nil)
                (fun _ _ _ _ _ => pe_ifExp (pt_cmpR op_eq (pv 6) (pv 4) (nomark _)) (pe_op op_sub (pe_ix (ix_tupK K) (pv 2) (pv 6) (fun _ _ => rfl)) pe_int) (pe_ix (ix_tupK K) (pv 2) (pv 6) (fun _ _ => rfl)))) pa_nil)))
          (pss_one (ps_expr (pe_bm PySem.F.plainAttrs_list PySem.F.slot_list_append PySem.F.type_list_append mt_append (pv 1) (pa_cons (pe_tup (pa_cons (pv 5) (pa_cons (pe_callTy (call_tuple_ofK K) (by rfl) T.tuple (by decide +kernel) (pa_cons
              (pe_lc (own := [("at", 6)]) (g := gName 6) (tt := tYes) rfl scNeigh.nd (pi_tup (pe_glob (v := .ref ax) (by rfl) T.axes rfl)) (blkOk_by (N := ["lot", "found", "low", "high", "axis", "start", "at"]) (sc := defScope sNeigh) (by decide +kernel))
                (fun _ _ _ _ _ => pg_name (i := 6) scNeigh.nd rfl (.inl rfl)) (fun _ _ _ _ _ => pts_nil)
                (fun _ _ _ _ _ => pe_ifExp (pt_cmpR op_eq (pv 6) (pv 4) (nomark _)) (pe_op op_add (pe_ix (ix_tupK K) (pv 3) (pv 6) (fun _ _ => rfl)) pe_int) (pe_ix (ix_tupK K) (pv 3) (pv 6) (fun _ _ => rfl)))) pa_nil)) pa_nil))) pa_nil))))))))
      (pss_one (ps_ret (pe_call GY hr (by rfl) C.gY C.FY.kp C.bY .nil pass0 (pa_cons (pv 1) pa_nil))))), ?_⟩
    -- found = boxes_of(lot)
    refine ⟨_, rfl, v, S, rfl, tv, ok, fun H0 l ys0 s0 nl hl0 al0 => ?_⟩
    refine ⟨_, rfl, v, S, rfl, tv.mono (TS.same s0), ok, fun H1 l1 zs s2 nl1 hl1 al1 => ?_⟩
    have s12 := s0.trans s2
    have hl := s2 _ _ hl0
    have hl1l : l1 ≠ l := (ne_of_none hl0 nl1).symm
    have hz1 : zs.length = (boxes S).length := al1.len'
    refine ⟨l1, rfl, ⟨_, .inl (.inl hl1)⟩, for_list (K := K) (a := l1) (xs := zs) (fun i σ H3 => ∃ (ys : List V) (y2 y3 y4 y5 : Option V), σ = [some v, some (.ref l), y2, y3, y4, y5, none] ∧ (∀ b o, H1 b = some o → b ≠ l → H3 b = some o) ∧ H3 l = some (.lst ys) ∧ TS K H1 H3 ∧ TpAll K H3 ys ((boxes S ++ ((boxes S).take i).flatMap grows).map boxD))
      ⟨ys0, none, none, none, none, rfl, fun b o e _ => e, hl, TS.refl, by
        have e : ((boxes S).take 0).flatMap grows = [] := rfl
        rw [e, List.append_nil]
        exact al0.mono (TS.same s2)⟩ (fun i σ H3 _ ⟨_, _, _, _, _, _, h, _⟩ => .inl (.inl (h _ _ hl1 hl1l))) ?_ ?_⟩
    · rintro i x σ H3 hi ⟨ys, y2, y3, y4, y5, rfl, k3, hl3, ts3, al3⟩
      obtain ⟨b, hb, tb⟩ := al1.of' hi
      obtain ⟨t, tl, tg, rfl, st, stl, stg⟩ := Tp.box tb
      have hib : i < (boxes S).length := (List.getElem?_eq_some_iff.mp hb).1
      refine ⟨t, _, rfl, ts3 _ _ st, rfl, _, [_], rfl, _, [], rfl, rfl, ?_⟩
      have cnt : (boxes S ++ ((boxes S).take i).flatMap grows).length + 3 ≤ 10000 := by
        rw [List.length_append, grows_len, List.length_take]
        omega
      refine ⟨ax, rfl, ⟨_, T.axT H3⟩, for_tup (K := K) (a := ax) (xs := [.int 0, .int 1, .int 2]) (fun j σ H5 => ∃ (ys : List V) (y4 y5 : Option V), σ = [some v, some (.ref l), some (.ref tl), some (.ref tg), y4, y5, none] ∧ (∀ b o, H3 b = some o → b ≠ l → H5 b = some o) ∧ H5 l = some (.lst ys) ∧ TS K H3 H5 ∧ TpAll K H5 ys ((boxes S ++ ((boxes S).take i).flatMap grows ++ (grows b).take j).map boxD))
        ⟨ys, y4, y5, rfl, fun b o e _ => e, hl3, TS.refl, by
          have e : (grows b).take 0 = [] := rfl
          rw [e, List.append_nil]
          exact al3⟩ (fun j σ H5 _ _ => T.axT H5) ?_ ?_⟩
      · rintro j x2 σ H5 hj ⟨ys5, z4, z5, rfl, k5, hl5, ts5, al5⟩
        have ts35 : TS K H1 H5 := ts3.trans ts5
        have lo := ts35 _ _ stl
        have hg := ts35 _ _ stg
        have hj3 : j < 3 := (List.getElem?_eq_some_iff.mp hj).1
        have hgj : (grows b)[j]? = some (grow b j) := by
          match j, hj3 with
          | 0, _ => rfl
          | 1, _ => rfl
          | 2, _ => rfl
        have ex2 : x2 = .int (j : Nat) := by
          match j, hj3, hj with
          | 0, _, hj => exact (Option.some.inj hj).symm
          | 1, _, hj => exact (Option.some.inj hj).symm
          | 2, _, hj => exact (Option.some.inj hj).symm
        subst ex2
        have e0 : ∀ p q : Int, (if 0 = j then p else q) = if (0 : Int) = ((j : Nat) : Int) then p else q := fun p q => by
          by_cases h : 0 = j
          · rw [if_pos h, if_pos (by omega)]
          · rw [if_neg h, if_neg (by omega)]
        have e1 : ∀ p q : Int, (if 1 = j then p else q) = if (1 : Int) = ((j : Nat) : Int) then p else q := fun p q => by
          by_cases h : 1 = j
          · rw [if_pos h, if_pos (by omega)]
          · rw [if_neg h, if_neg (by omega)]
        have e2 : ∀ p q : Int, (if 2 = j then p else q) = if (2 : Int) = ((j : Nat) : Int) then p else q := fun p q => by
          by_cases h : 2 = j
          · rw [if_pos h, if_pos (by omega)]
          · rw [if_neg h, if_neg (by omega)]
        -- start = tuple([..])
        refine ⟨_, rfl, ⟨_, T.axT H5⟩, fun D1 nD1 => ?_⟩
        refine lc_axes T.axT (.int (grow b j).1.1) (.int (grow b j).1.2.1) (.int (grow b j).1.2.2) nD1
          (fun H' Q' s' q' => el_if (fun p q => p - q) rfl rfl rfl (same_seqT s' lo) (atI_nat (j := 0) rfl) (e0 _ _) q')
          (fun H' Q' s' q' => el_if (fun p q => p - q) rfl rfl rfl (same_seqT s' lo) (atI_nat (j := 1) rfl) (e1 _ _) q')
          (fun H' Q' s' q' => el_if (fun p q => p - q) rfl rfl rfl (same_seqT s' lo) (atI_nat (j := 2) rfl) (e2 _ _) q')
          fun H6 s6 hD1 => ?_
        refine ⟨D1, _, rfl, .inl ⟨.inl (.inl hD1), fun u1 n1 => ?_⟩⟩
        have q1 := same_new (o := .tup [.int (grow b j).1.1, .int (grow b j).1.2.1, .int (grow b j).1.2.2]) n1
        have d1 : Tp K _ (.ref u1) (ptD (grow b j).1) := Tp.new n1 (.cons (.int _) (.cons (.int _) (.cons (.int _) .nil)))
        have s61 := s6.trans q1
        have hl6 := s61 _ _ hl5
        generalize hH7 : upd H6 u1 (.tup [.int (grow b j).1.1, .int (grow b j).1.2.1, .int (grow b j).1.2.2]) = H7 at *
        -- found.append
        refine ⟨_, rfl, .inl ⟨rfl, _, .inl (.inl hl6)⟩, _, rfl, _, rfl, ⟨_, T.axT H7⟩, fun D2 nD2 => ?_⟩
        refine lc_axes T.axT (.int (grow b j).2.1) (.int (grow b j).2.2.1) (.int (grow b j).2.2.2) nD2
          (fun H' Q' s' q' => el_if (fun p q => p + q) rfl rfl rfl (same_seqT s' (same_seqT s61 hg)) (atI_nat (j := 0) rfl) (e0 _ _) q')
          (fun H' Q' s' q' => el_if (fun p q => p + q) rfl rfl rfl (same_seqT s' (same_seqT s61 hg)) (atI_nat (j := 1) rfl) (e1 _ _) q')
          (fun H' Q' s' q' => el_if (fun p q => p + q) rfl rfl rfl (same_seqT s' (same_seqT s61 hg)) (atI_nat (j := 2) rfl) (e2 _ _) q')
          fun H8 s8 hD2 => ?_
        refine ⟨D2, _, rfl, .inl ⟨.inl (.inl hD2), fun u2 n2 => ⟨line2 _ _, fun u3 n3 => ?_⟩⟩⟩
        have q2 := same_new (o := .tup [.int (grow b j).2.1, .int (grow b j).2.2.1, .int (grow b j).2.2.2]) n2
        have q3 := same_new (o := .tup [.ref u1, .ref u2]) n3
        have d2 : Tp K _ (.ref u2) (ptD (grow b j).2) := Tp.new n2 (.cons (.int _) (.cons (.int _) (.cons (.int _) .nil)))
        have d3 : Tp K _ (.ref u3) (boxD (grow b j)) := Tp.new n3 (.cons ((d1.mono (TS.same s8)).mono (TS.same q2)) (.cons d2 .nil))
        have sq := ((s61.trans s8).trans q2).trans q3
        have hl9 := sq _ _ hl5
        refine ⟨l, ys5, _, rfl, rfl, hl9, line10k ?_, ?_⟩
        · have h1 := al5.len'
          rw [List.length_append] at h1
          have h2 : ((grows b).take j).length ≤ 3 := by
            rw [List.length_take]
            exact Nat.min_le_right _ _
          omega
        · have tsl := TS.lst (K := K) (o := .lst (ys5 ++ [.ref u3])) hl9
          refine ⟨ys5 ++ [.ref u3], _, _, rfl, fun b' o e hne => ?_, upd_same, (ts5.trans (TS.same sq)).trans tsl, ?_⟩
          · rw [upd_ne hne]
            exact sq _ _ (k5 _ _ e hne)
          · have et : (grows b).take (j + 1) = (grows b).take j ++ [grow b j] := by
              rw [List.take_add_one, hgj]
              rfl
            rw [et, ← List.append_assoc, List.map_append]
            exact ((al5.mono (TS.same sq)).app (TpAll.one d3)).mono tsl
      · rintro σ H5 ⟨ys5, z4, z5, rfl, k5, hl5, ts5, al5⟩
        have e : (grows b).take ([V.int 0, V.int 1, V.int 2] : List V).length = grows b := rfl
        rw [e, List.append_assoc, ← grows_take hb] at al5
        exact ⟨ys5, _, _, _, _, rfl, fun b' o e hne => k5 _ _ (k3 _ _ e hne) hne, hl5, ts3.trans ts5, al5⟩
    · rintro σ H3 ⟨ys, y2, y3, y4, y5, rfl, k3, hl3, ts3, al3⟩
      rw [hz1, List.take_length] at al3
      have s13 : Same H H3 := fun b o e => k3 _ _ (s12 _ _ e) (ne_of_none e nl)
      refine ⟨_, rfl, l, ys, nbBoxes (boxes S), rfl, .inl (.inl hl3), al3, hbd, ?_, fun u H4 x s4 hu ht => q u H4 x (s13.trans s4) hu ht⟩
      show (boxes S ++ (boxes S).flatMap grows).length ≤ _
      rw [List.length_append, grows_len]
      omega
end
end K4
/-! C12_Is: is_row, are_stretches, is_layer, is_solid. -/
namespace K4
open PySem PySem.Spec PyProof.Rows L2

/-- what a test of form promises of a thing in its form, not empty -/
def spIs {A : Type} (K : PySem.W.Frag) (D : A → PyData) (Good : A → Prop) (e : A) : Sp := fun vs H Q _ => ∃ (v : V) (a : A), vs = [v] ∧ Tp K H v (D a) ∧ Good a ∧ a ≠ e ∧ ∀ H', Same H H' → Q (.bl true) H'
theorem slice1 {K : PySem.W.Frag} {σ : L2.St} {H : Hp} {Q : VK} {i : Nat} {a : Addr} {xs : List V} (ha : σ[i]? = some (some (.ref a))) (hs : SqT K H a xs) (q : ∀ b H', Same H H' → SqT K H' b (xs.drop 1) → Q (.ref b) H') :
    tSl (rSlA K) (tVar i) (tPart (tC (.int 1))) tNoPart σ H Q := by
  refine ⟨_, ha, 1, rfl, a, xs, rfl, hs, fun hw => ?_, fun _ p np => ?_⟩
  · refine q a H (Same.refl _) ?_
    have h1 := hw.1
    rw [show HT.sIx xs.length 0 (some 1) = min 1 xs.length from HT.sIx_nat xs.length 0 1] at h1
    have h2 : xs = [] := by
      cases xs with
      | nil => rfl
      | cons x r =>
        rw [List.length_cons] at h1
        omega
    subst h2
    exact hs
  · rw [cut1]
    exact q p _ (same_new np) seqT_new
theorem all_true (n : Nat) : (List.replicate n true).all id = true := by
  induction n with
  | zero => rfl
  | succ n ih =>
    rw [List.replicate_succ, List.all_cons, ih]
    rfl
section
variable {P : Program} {w : World} {K : PySem.W.Frag} {mg : Str → Option Value} {base : Heap} {ax : Addr}
theorem scIsRow : FnScope ["thing", "one", "low", "high", "other"] ["thing"] (defScope sIsRow) := ⟨rfl, rfl, rfl, by decide +kernel, rfl, by decide +kernel, by decide +kernel⟩
theorem row_apart {r : Row} (h : RowOk r) {i : Nat} {p q : Int × Int} (hp : r[i]? = some p) (hq : r[i + 1]? = some q) : p.2 < q.1 := by
  have ha := Ok.asc h
  unfold rs at ha
  rw [List.pairwise_map] at ha
  obtain ⟨a1, a2⟩ := List.getElem?_eq_some_iff.mp hp
  obtain ⟨b1, b2⟩ := List.getElem?_eq_some_iff.mp hq
  have h3 := List.pairwise_iff_getElem.mp ha i (i + 1) a1 b1 (by omega)
  rw [a2, b2] at h3
  rcases h3 with h | ⟨_, h⟩
  · exact h
  · exact absurd rfl h
theorem str_apart {A : Type} {e : A} {Ok' : A → Prop} {s : Sx A} (h : Ok e Ok' s) {i : Nat} {p q : Int × Int × A} (hp : s[i]? = some p) (hq : s[i + 1]? = some q) : Af p q := by
  obtain ⟨a1, a2⟩ := List.getElem?_eq_some_iff.mp hp
  obtain ⟨b1, b2⟩ := List.getElem?_eq_some_iff.mp hq
  have h3 := List.pairwise_iff_getElem.mp h.asc i (i + 1) a1 b1 (by omega)
  rw [a2, b2] at h3
  exact h3
theorem ok_isRow {f fN : Addr} {fd fdN : FuncData} (F : Fun K "is_row" "is_row" sIsRow f fd) (FN : Fun K "is_number" "is_number" sIsNumber fN fdN) (bN : Binds K fdN ["thing"] []) (gN : mg "is_number" = some (.ref fN))
    (T : Txt K mg ax) : FnOk P w K mg base CX0 2 f fd ["thing"] (spIs K rowD RowOk []) := by
  have GN : FnOk P w K mg base CX0 1 fN fdN ["thing"] spIsNumber := ok_isNumber FN T
  refine F.ok scIsRow (fun vs H Q E h => ?_) (fun cdv A outer s H vs Q E hr h => ?_)
  · obtain ⟨v, r, rfl, _⟩ := h
    rfl
  · obtain ⟨v, r, rfl, tv, ok, hne, q⟩ := h
    obtain ⟨a, xs, rfl, hx, al⟩ := Tp.inv tv
    refine ⟨_, pss_cons (ps_if (PW.pt (pw_or (pt_not (pt_val (pe_callB call_isi (by rfl) T.isi (by decide +kernel) (pa_cons (pv 0) (pa_cons (pe_bltn (v := .ty "tuple") (by rfl) T.tuple (by decide +kernel) rfl) pa_nil))))) (pw_or1 (pt_cmpR (op_eqD hr.units) (pv 0) (pe_tup pa_nil) (nomark _))))) (pss_one (ps_ret pe_bl)) pss_nil)
      (pss_cons (ps_for PassesOwn.never rfl (pi_tup (pv 0)) (pg_name (i := 1) scIsRow.nd rfl (.inl rfl))
        (pss_one (ps_if (PW.pt (pw_or (pt_not (pt_val (pe_callB call_isi (by rfl) T.isi (by decide +kernel) (pa_cons (pv 1) (pa_cons (pe_bltn (v := .ty "tuple") (by rfl) T.tuple (by decide +kernel) rfl) pa_nil)))))
            (pw_or (pt_cmpR op_ne (pe_callB call_len_seq (by rfl) T.len PySem.boot_len (pa_cons (pv 1) pa_nil)) pe_int (nomark _))
            (pw_or (pt_not (pt_val (pe_call GN hr (by rfl) gN FN.kp bN .nil pass0 (pa_cons (pe_ix ix_tup (pv 1) pe_int (fun _ _ => rfl)) pa_nil))))
            (pw_or1 (pt_not (pt_val (pe_call GN hr (by rfl) gN FN.kp bN .nil pass0 (pa_cons (pe_ix ix_tup (pv 1) pe_int (fun _ _ => rfl)) pa_nil)))))))))
          (pss_one (ps_ret pe_bl)) pss_nil)))
      (pss_cons (ps_if (pt_not (pt_val (pe_callB (cr_all rfl) (by rfl) T.all (by decide +kernel) (pa_cons
          (pe_lc (own := [("low", 2), ("high", 3)]) (g := gTup K 2 (gCons (gName 2) (gCons (gName 3) gNil))) (tt := tYes) rfl scIsRow.nd (pi_tup (pv 0)) (blkOk_by (N := ["thing", "one", "low", "high", "other"]) (sc := defScope sIsRow) (by decide +kernel))
            (fun _ _ _ _ _ => pg_tup rfl (pgs_cons (pg_name (i := 2) scIsRow.nd rfl (.inl rfl)) (pgs_cons (pg_name (i := 3) scIsRow.nd rfl (.inl rfl)) pgs_nil))) (fun _ _ _ _ _ => pts_nil)
            (fun _ _ _ _ _ => pe_cmpR op_lt (pv 2) (pv 3) (nomark _))) pa_nil)))) (pss_one (ps_ret pe_bl)) pss_nil)
      (pss_one (ps_ret (pe_callB (cr_all rfl) (by rfl) T.all (by decide +kernel) (pa_cons
          (pe_lc (own := [("one", 1), ("other", 4)]) (g := gTup K 2 (gCons (gName 1) (gCons (gName 4) gNil))) (tt := tYes) rfl scIsRow.nd (RZ.pi_zipA (by rfl) T.zip (pa_cons (pv 0) (pa_cons (pe_slice sl_tupA (pv 0) (po_some pe_int) po_none) pa_nil))) (blkOk_by (N := ["thing", "one", "low", "high", "other"]) (sc := defScope sIsRow) (by decide +kernel))
            (fun _ _ _ _ _ => pg_tup rfl (pgs_cons (pg_name (i := 1) scIsRow.nd rfl (.inl rfl)) (pgs_cons (pg_name (i := 4) scIsRow.nd rfl (.inl rfl)) pgs_nil))) (fun _ _ _ _ _ => pts_nil)
            (fun _ _ _ _ _ => pe_cmpR op_lt (pe_ix (ix_tupK K) (pv 1) pe_int (fun _ _ => rfl)) (pe_ix (ix_tupK K) (pv 4) pe_int (fun _ _ => rfl)) (nomark _))) pa_nil)))))), ?_⟩
    have hxl : xs.length = r.length := al.len'
    have hrl := RowOk.len ok
    -- isinstance(thing, tuple), thing == ()
    refine ⟨_, rfl, _, _, _, _, true, rfl, ClsV.ty "tuple", ty_tup hx, kit_ty (by decide +kernel), true, rfl, ?_⟩
    refine iteF ⟨_, rfl, Nat.zero_le _, fun n nn => ?_⟩
    have sn : Same H (upd H n (.tup [])) := same_new nn
    refine ⟨_, _, (tv.mono (TS.same sn)).dp, (Tp.new nn .nil).dp, rowK.shaped r, shaped_nil, _, rfl, ?_⟩
    have hnil : PyData.eqv (rowD r) (.tuple []) = false := by
      show PyData.eqv (.tuple (r.map segD)) (.tuple []) = false
      rw [eqv_tnil]
      exact decide_eq_false hne
    rw [hnil]
    refine iteF ?_
    generalize hH1 : upd H n (.tup []) = H1 at *
    have hx1 := same_seqT (K := K) sn hx
    have al1 := al.mono (TS.same (K := K) sn)
    -- for one in thing
    refine ⟨_, rfl, a, rfl, ⟨_, hx1⟩, for_tup (K := K) (a := a) (xs := xs) (fun i σ H3 => H3 = H1 ∧ ∃ y1, σ = [some (.ref a), y1, none, none, none]) ⟨rfl, none, rfl⟩ (fun i σ H3 _ ⟨e, _⟩ => by rw [e]; exact hx1) ?_ ?_⟩
    · rintro i x σ H3 hi ⟨rfl, y1, rfl⟩
      obtain ⟨p, hp, tp⟩ := al1.of' hi
      obtain ⟨t, rfl, st⟩ := Tp.seg tp
      refine ⟨_, rfl, _, _, _, _, true, rfl, ClsV.ty "tuple", ty_tup st, kit_ty (by decide +kernel), true, rfl, ?_⟩
      refine iteF ⟨_, rfl, t, _, rfl, .inr st, rfl, false, rfl, iteF ?_⟩
      refine ⟨_, rfl, t, _, 0, .int p.1, rfl, rfl, st, atI_nat (j := 0) rfl, p.1, rfl, true, rfl, iteF ?_⟩
      refine ⟨_, rfl, t, _, 1, .int p.2, rfl, rfl, st, atI_nat (j := 1) rfl, p.2, rfl, true, rfl, iteF ?_⟩
      exact ⟨rfl, _, rfl⟩
    · rintro σ H3 ⟨rfl, y1, rfl⟩
      -- all([low < high ..])
      refine ⟨_, rfl, a, rfl, ⟨_, hx1⟩, fun D nD => ?_⟩
      have sD : Same H3 (upd H3 D (.lst [])) := same_new nD
      refine lc_it (walk_tup (K := K) (a := a) (xs := xs)) (fun m H5 => Same H3 H5 ∧ H5 D = some (.lst ((List.replicate m true).map V.bl))) ⟨sD, upd_same⟩ (fun m H5 _ ⟨h, _⟩ => same_seqT h hx1) ?_ ?_
      · rintro m x H5 H6 hm ⟨s5, hD⟩ ⟨e, hx3⟩
        subst e
        obtain ⟨p, hp, tp⟩ := al1.of' hx3
        obtain ⟨t, rfl, st⟩ := Tp.seg tp
        have hm : m < xs.length := hm
        have hlt := (RowOk.at ok (List.mem_of_getElem? hp)).1
        refine ⟨t, _, rfl, same_seqT s5 st, rfl, _, [_], rfl, _, [], rfl, rfl, rfl, ?_⟩
        refine ⟨_, rfl, _, rfl, _, _, rfl, rfl, _, hD, small1000 (by rw [List.length_map, List.length_replicate]; omega), same_at s5 nD, ?_⟩
        rw [upd_same, List.replicate_succ', List.map_append]
        show some (HO.lst (_ ++ [V.bl (decide (p.1 < p.2))])) = _
        rw [decide_eq_true hlt]
        rfl
      · rintro H5 ⟨s5, hD⟩
        refine ⟨D, List.replicate xs.length true, rfl, .inl (.inl hD), _, rfl, ?_⟩
        rw [all_true]
        refine iteF ?_
        have hx5 := same_seqT (K := K) s5 hx1
        have al5 := al1.mono (TS.same (K := K) s5)
        -- all([one[1] < other[0] ..])
        refine ⟨_, rfl, slice1 rfl hx5 fun b H6 s6 hb => ⟨a, b, xs, xs.drop 1, rfl, .inr ⟨same_seqT s6 hx5, hb, fun D2 nD2 => ?_⟩⟩⟩
        have hx6 := same_seqT (K := K) s6 hx5
        have al6 := al5.mono (TS.same (K := K) s6)
        have sD2 : Same H6 (upd H6 D2 (.lst [])) := same_new nD2
        refine lc_it (walk_zipT (K := K) (a := a) (b := b) (xs := xs) (ys := xs.drop 1) (n := xs.length - 1) (by rw [List.length_drop]; omega)) (fun m H7 => Same H6 H7 ∧ H7 D2 = some (.lst ((List.replicate m true).map V.bl))) ⟨sD2, upd_same⟩ (fun m H7 _ ⟨h, _⟩ => ⟨same_seqT h hx6, same_seqT h hb⟩) ?_ ?_
        · rintro m x H7 H8 hm ⟨s7, hD2⟩ ⟨T', x1, x2, rfl, nT, rfl, f1, f2⟩
          have f2 : (xs.drop 1)[m]? = some x2 := f2
          rw [List.getElem?_drop, Nat.add_comm 1 m] at f2
          obtain ⟨p1, hp1, tp1⟩ := al6.of' f1
          obtain ⟨p2, hp2, tp2⟩ := al6.of' f2
          obtain ⟨t1, rfl, st1⟩ := Tp.seg tp1
          obtain ⟨t2, rfl, st2⟩ := Tp.seg tp2
          have sT := same_new (o := .tup [.ref t1, .ref t2]) nT
          have s78 := s7.trans sT
          have hlt := row_apart ok hp1 hp2
          refine ⟨T', _, rfl, seqT_new, rfl, _, [_], rfl, _, [], rfl, rfl, rfl, ?_⟩
          refine ⟨_, rfl, t1, _, 1, .int p1.2, rfl, rfl, same_seqT s78 st1, atI_nat (j := 1) rfl, _, rfl, t2, _, 0, .int p2.1, rfl, rfl, same_seqT s78 st2, atI_nat (j := 0) rfl, _, _, rfl, rfl, _, sT _ _ hD2, small1000 (by rw [List.length_map, List.length_replicate]; omega), same_at s78 nD2, ?_⟩
          rw [upd_same, List.replicate_succ', List.map_append]
          show some (HO.lst (_ ++ [V.bl (decide (p1.2 < p2.1))])) = _
          rw [decide_eq_true hlt]
          rfl
        · rintro H7 ⟨s7, hD2⟩
          refine ⟨D2, List.replicate (xs.length - 1) true, rfl, .inl (.inl hD2), ?_⟩
          rw [all_true]
          exact q H7 (((sn.trans s5).trans s6).trans s7)
/-! ### are_stretches -/
def spAre {A : Type} (K : PySem.W.Frag) (D : A → PyData) (e : A) (Ok' : A → Prop) (fI : Addr) : Sp := fun vs H Q _ => ∃ (v : V) (s : Sx A), vs = [v, .ref fI] ∧ Tp K H v (sxD D s) ∧ Ok e Ok' s ∧ ∀ H', Same H H' → Q (.bl true) H'
theorem scAre : FnScope ["thing", "is_inside", "one", "other"] ["thing", "is_inside"] (defScope sAreStr) := ⟨rfl, rfl, rfl, by decide +kernel, rfl, by decide +kernel, by decide +kernel⟩
theorem ok_are {A : Type} [DecidableEq A] (kd : Kd A) {Ok' : A → Prop} {f fN fI : Addr} {fd fdN fdI : FuncData} {kI : Nat} {psI : List Str} (hkI : 1 ≤ kI) (F : Fun K "are_stretches" "are_stretches" sAreStr f fd)
    (FN : Fun K "is_number" "is_number" sIsNumber fN fdN) (bN : Binds K fdN ["thing"] []) (gN : mg "is_number" = some (.ref fN))
    (GI : FnOk P w K mg base CX0 kI fI fdI psI (spIs K kd.D Ok' kd.e)) (kpI : PySem.W.keepIn K (.ref fI) = true) (bI : Binds K fdI psI [])
    (T : Txt K mg ax) : FnOk P w K mg base CX0 (kI + 1) f fd ["thing", "is_inside"] (spAre K kd.D kd.e Ok' fI) := by
  have GN : FnOk P w K mg base CX0 1 fN fdN ["thing"] spIsNumber := ok_isNumber FN T
  refine F.ok scAre (fun vs H Q E h => ?_) (fun cdv A' outer s H vs Q E hr h => ?_)
  · obtain ⟨v, r, rfl, _⟩ := h
    rfl
  · obtain ⟨v, r, rfl, tv, ok, q⟩ := h
    obtain ⟨a, xs, rfl, hx, al⟩ := Tp.inv tv
    have hr1 : Room 1 _ := hr.mono hkI
    refine ⟨_, pss_cons (ps_if (pt_not (pt_val (pe_callB call_isi (by rfl) T.isi (by decide +kernel) (pa_cons (pv 0) (pa_cons (pe_bltn (v := .ty "tuple") (by rfl) T.tuple (by decide +kernel) rfl) pa_nil))))) (pss_one (ps_ret pe_bl)) pss_nil)
      (pss_cons (ps_for PassesOwn.never rfl (pi_tup (pv 0)) (pg_name (i := 2) scAre.nd rfl (.inl rfl))
        (pss_cons (ps_if (PW.pt (pw_or (pt_not (pt_val (pe_callB call_isi (by rfl) T.isi (by decide +kernel) (pa_cons (pv 2) (pa_cons (pe_bltn (v := .ty "tuple") (by rfl) T.tuple (by decide +kernel) rfl) pa_nil)))))
            (pw_or (pt_cmpR op_ne (pe_callB call_len_seq (by rfl) T.len PySem.boot_len (pa_cons (pv 2) pa_nil)) pe_int (nomark _))
            (pw_or (pt_not (pt_val (pe_call GN hr1 (by rfl) gN FN.kp bN .nil pass0 (pa_cons (pe_ix ix_tup (pv 2) pe_int (fun _ _ => rfl)) pa_nil))))
            (pw_or1 (pt_not (pt_val (pe_call GN hr1 (by rfl) gN FN.kp bN .nil pass0 (pa_cons (pe_ix ix_tup (pv 2) pe_int (fun _ _ => rfl)) pa_nil)))))))))
          (pss_one (ps_ret pe_bl)) pss_nil)
        (pss_one (ps_if (PW.pt (pw_or (pt_cmpR op_ge (pe_ix ix_tup (pv 2) pe_int (fun _ _ => rfl)) (pe_ix ix_tup (pv 2) pe_int (fun _ _ => rfl)) (nomark _))
            (pw_or1 (pt_not (pt_val (pe_callL (i := 1) GI hr rfl (.inl rfl) kpI bI .nil pass0 (pa_cons (pe_ix ix_tup (pv 2) pe_int (fun _ _ => rfl)) pa_nil)))))))
          (pss_one (ps_ret pe_bl)) pss_nil))))
      (pss_cons (ps_for PassesOwn.never rfl (RZ.pi_zipA (by rfl) T.zip (pa_cons (pv 0) (pa_cons (pe_slice sl_tupA (pv 0) (po_some pe_int) po_none) pa_nil)))
          (pg_tup rfl (pgs_cons (pg_name (i := 2) scAre.nd rfl (.inl rfl)) (pgs_cons (pg_name (i := 3) scAre.nd rfl (.inl rfl)) pgs_nil)))
        (pss_one (ps_if (PW.pt (pw_or (pt_cmpR op_gt (pe_ix ix_tup (pv 2) pe_int (fun _ _ => rfl)) (pe_ix ix_tup (pv 3) pe_int (fun _ _ => rfl)) (nomark _))
            (pw_or1 (PW.pt (pw_and (pt_cmpR op_eq (pe_ix ix_tup (pv 2) pe_int (fun _ _ => rfl)) (pe_ix ix_tup (pv 3) pe_int (fun _ _ => rfl)) (nomark _))
              (pw_and1 (pt_cmpR (op_eqD hr.units) (pe_ix ix_tup (pv 2) pe_int (fun _ _ => rfl)) (pe_ix ix_tup (pv 3) pe_int (fun _ _ => rfl)) (nomark _))))))))
          (pss_one (ps_ret pe_bl)) pss_nil)))
      (pss_one (ps_ret pe_bl)))), ?_⟩
    have hxl : xs.length = r.length := al.len'
    refine ⟨_, rfl, _, _, _, _, true, rfl, ClsV.ty "tuple", ty_tup hx, kit_ty (by decide +kernel), true, rfl, iteF ?_⟩
    refine ⟨_, rfl, a, rfl, ⟨_, hx⟩, for_tup (K := K) (a := a) (xs := xs) (fun i σ H3 => Same H H3 ∧ ∃ y1, σ = [some (.ref a), some (.ref fI), y1, none]) ⟨Same.refl _, none, rfl⟩ (fun i σ H3 _ ⟨e, _⟩ => same_seqT e hx) ?_ ?_⟩
    · rintro i x σ H3 hi ⟨s3, y1, rfl⟩
      obtain ⟨p, hp, tp⟩ := al.of' hi
      obtain ⟨t, z, rfl, st0, tz0⟩ := Tp.str tp
      have st := same_seqT (K := K) s3 st0
      have tz := tz0.mono (TS.same (K := K) s3)
      obtain ⟨o1, o2, o3, _⟩ := ok.each p (List.mem_of_getElem? hp)
      refine ⟨_, rfl, _, _, _, _, true, rfl, ClsV.ty "tuple", ty_tup st, kit_ty (by decide +kernel), true, rfl, ?_⟩
      refine iteF ⟨_, rfl, t, _, rfl, .inr st, rfl, false, rfl, iteF ?_⟩
      refine ⟨_, rfl, t, _, 0, .int p.1, rfl, rfl, st, atI_nat (j := 0) rfl, p.1, rfl, true, rfl, iteF ?_⟩
      refine ⟨_, rfl, t, _, 1, .int p.2.1, rfl, rfl, st, atI_nat (j := 1) rfl, p.2.1, rfl, true, rfl, iteF ?_⟩
      refine ⟨_, rfl, t, _, 0, .int p.1, rfl, rfl, st, atI_nat (j := 0) rfl, _, rfl, t, _, 1, .int p.2.1, rfl, rfl, st, atI_nat (j := 1) rfl, _, _, rfl, rfl, _, rfl, ?_⟩
      rw [decide_eq_false (show ¬ p.2.1 ≤ p.1 by omega)]
      refine iteF ⟨rfl, _, rfl, t, _, 2, z, rfl, rfl, st, atI_nat (j := 2) rfl, z, p.2.2, rfl, tz, o3, o2, fun H4 s4 => ⟨true, rfl, iteF ?_⟩⟩
      exact ⟨s3.trans s4, _, rfl⟩
    · rintro σ H3 ⟨s3, y1, rfl⟩
      have hx3 := same_seqT (K := K) s3 hx
      have al3 := al.mono (TS.same (K := K) s3)
      refine ⟨_, rfl, slice1 rfl hx3 fun b H6 s6 hb => ⟨a, b, xs, xs.drop 1, rfl, .inr ⟨same_seqT s6 hx3, hb, ?_⟩⟩⟩
      have hx6 := same_seqT (K := K) s6 hx3
      have al6 := al3.mono (TS.same (K := K) s6)
      refine for_it (walk_zipT (K := K) (a := a) (b := b) (xs := xs) (ys := xs.drop 1) (n := xs.length - 1) (by rw [List.length_drop]; omega)) (fun m σ H7 => Same H6 H7 ∧ ∃ y2 y3, σ = [some (.ref a), some (.ref fI), y2, y3]) ⟨Same.refl _, _, _, rfl⟩ (fun m σ H7 _ ⟨h, _⟩ => ⟨same_seqT h hx6, same_seqT h hb⟩) ?_ ?_
      · rintro m x σ H7 H8 hm ⟨s7, y2, y3, rfl⟩ ⟨T', x1, x2, rfl, nT, rfl, f1, f2⟩
        have f2 : (xs.drop 1)[m]? = some x2 := f2
        rw [List.getElem?_drop, Nat.add_comm 1 m] at f2
        obtain ⟨p1, hp1, tp1⟩ := al6.of' f1
        obtain ⟨p2, hp2, tp2⟩ := al6.of' f2
        obtain ⟨t1, z1, rfl, st1, tz1⟩ := Tp.str tp1
        obtain ⟨t2, z2, rfl, st2, tz2⟩ := Tp.str tp2
        have sT := same_new (o := .tup [.ref t1, .ref t2]) nT
        have s78 := s7.trans sT
        have g1 := same_seqT (K := K) s78 st1
        have g2 := same_seqT (K := K) s78 st2
        have haf := str_apart ok hp1 hp2
        refine ⟨T', _, rfl, seqT_new, rfl, _, [_], rfl, _, [], rfl, rfl, ?_⟩
        refine ⟨_, rfl, t1, _, 1, .int p1.2.1, rfl, rfl, g1, atI_nat (j := 1) rfl, _, rfl, t2, _, 0, .int p2.1, rfl, rfl, g2, atI_nat (j := 0) rfl, _, _, rfl, rfl, _, rfl, ?_⟩
        have hle := haf.le
        rw [decide_eq_false (show ¬ p2.1 < p1.2.1 by omega)]
        refine iteF ⟨_, rfl, t1, _, 1, .int p1.2.1, rfl, rfl, g1, atI_nat (j := 1) rfl, _, rfl, t2, _, 0, .int p2.1, rfl, rfl, g2, atI_nat (j := 0) rfl, rfl, _, rfl, ?_⟩
        rcases haf with hlt | ⟨heq, hin⟩
        · rw [decide_eq_false (show ¬ V.int p1.2.1 = V.int p2.1 from fun z => by have := V.int.inj z; omega)]
          exact iteF (iteF ⟨s78, _, _, rfl⟩)
        · rw [decide_eq_true (show V.int p1.2.1 = V.int p2.1 by rw [heq])]
          refine iteT ⟨_, rfl, t1, _, 2, z1, rfl, rfl, g1, atI_nat (j := 2) rfl, _, rfl, t2, _, 2, z2, rfl, rfl, g2, atI_nat (j := 2) rfl, _, _, (tz1.mono (TS.same s78)).dp, (tz2.mono (TS.same s78)).dp, kd.shaped _, kd.shaped _, _, rfl, ?_⟩
          rw [kd.eqv, decide_eq_false hin]
          exact iteF ⟨s78, _, _, rfl⟩
      · rintro σ H7 ⟨s7, y2, y3, rfl⟩
        exact q H7 ((s3.trans s6).trans s7)
/-! ### is_layer, is_solid -/
theorem scIsLayer : FnScope ["thing"] ["thing"] (defScope sIsLayer) := ⟨rfl, rfl, rfl, by decide +kernel, rfl, by decide +kernel, by decide +kernel⟩
theorem scIsSolid : FnScope ["thing"] ["thing"] (defScope sIsSolid) := ⟨rfl, rfl, rfl, by decide +kernel, rfl, by decide +kernel, by decide +kernel⟩
/-- the tests of form -/
structure IDefs (K : PySem.W.Frag) (mg : Str → Option Value) (fN fR fA fL : Addr) (dN dR dA dL : FuncData) : Prop where
  FN : Fun K "is_number" "is_number" sIsNumber fN dN
  bN : Binds K dN ["thing"] []
  gN : mg "is_number" = some (.ref fN)
  FR : Fun K "is_row" "is_row" sIsRow fR dR
  bR : Binds K dR ["thing"] []
  gR : mg "is_row" = some (.ref fR)
  FA : Fun K "are_stretches" "are_stretches" sAreStr fA dA
  bA : Binds K dA ["thing", "is_inside"] []
  gA : mg "are_stretches" = some (.ref fA)
  FL : Fun K "is_layer" "is_layer" sIsLayer fL dL
  bL : Binds K dL ["thing"] []
  gL : mg "is_layer" = some (.ref fL)
variable {fN fR fA fL : Addr} {dN dR dA dL : FuncData}
theorem IDefs.row (I : IDefs K mg fN fR fA fL dN dR dA dL) (T : Txt K mg ax) : FnOk P w K mg base CX0 2 fR dR ["thing"] (spIs K rowD RowOk []) := ok_isRow I.FR I.FN I.bN I.gN T
theorem IDefs.are1 (I : IDefs K mg fN fR fA fL dN dR dA dL) (T : Txt K mg ax) : FnOk P w K mg base CX0 3 fA dA ["thing", "is_inside"] (spAre K rowD ([] : Row) RowOk fR) := ok_are rowK (by decide) I.FA I.FN I.bN I.gN (I.row T) I.FR.kp I.bR T
theorem IDefs.layer (I : IDefs K mg fN fR fA fL dN dR dA dL) (T : Txt K mg ax) : FnOk P w K mg base CX0 4 fL dL ["thing"] (spIs K layD LayOk []) := by
  refine I.FL.ok scIsLayer (fun vs H Q E h => ?_) (fun cdv A outer s H vs Q E hr h => ?_)
  · obtain ⟨v, r, rfl, _⟩ := h
    rfl
  · obtain ⟨v, l, rfl, tv, ok, hne, q⟩ := h
    refine ⟨_, pss_one (ps_ret (pe_and (pe_cmpR (op_neD hr.units) (pv 0) (pe_tup pa_nil) (nomark _)) (pe_one (pe_call (I.are1 T) hr (by rfl) I.gA I.FA.kp I.bA .nil pass0 (pa_cons (pv 0) (pa_cons (pe_glob (v := .ref fR) (by rfl) I.gR rfl) pa_nil)))))), ?_⟩
    refine ⟨_, rfl, Nat.zero_le _, fun n nn => ?_⟩
    have sn : Same H (upd H n (.tup [])) := same_new nn
    refine ⟨_, _, (tv.mono (TS.same sn)).dp, (Tp.new nn .nil).dp, layK.shaped l, shaped_nil, _, rfl, ?_⟩
    have hnil : PyData.eqv (layD l) (.tuple []) = false := by
      show PyData.eqv (.tuple (l.map (strD rowD))) (.tuple []) = false
      rw [eqv_tnil]
      exact decide_eq_false hne
    rw [hnil]
    exact iteT ⟨_, rfl, v, l, rfl, tv.mono (TS.same sn), ok, fun H' s' => q H' (sn.trans s')⟩
theorem IDefs.are2 (I : IDefs K mg fN fR fA fL dN dR dA dL) (T : Txt K mg ax) : FnOk P w K mg base CX0 5 fA dA ["thing", "is_inside"] (spAre K layD ([] : Layer) LayOk fL) := ok_are layK (by decide) I.FA I.FN I.bN I.gN (I.layer T) I.FL.kp I.bL T
def spIsSolid (K : PySem.W.Frag) : Sp := fun vs H Q _ => ∃ (v : V) (s : Sol), vs = [v] ∧ Tp K H v (solD s) ∧ SolOk s ∧ ∀ H', Same H H' → Q (.bl true) H'
theorem ok_isSolid {f : Addr} {fd : FuncData} (F : Fun K "is_solid" "is_solid" sIsSolid f fd) (I : IDefs K mg fN fR fA fL dN dR dA dL) (T : Txt K mg ax) : FnOk P w K mg base CX0 6 f fd ["thing"] (spIsSolid K) := by
  refine F.ok scIsSolid (fun vs H Q E h => ?_) (fun cdv A outer s H vs Q E hr h => ?_)
  · obtain ⟨v, r, rfl, _⟩ := h
    rfl
  · obtain ⟨v, l, rfl, tv, ok, q⟩ := h
    refine ⟨_, pss_one (ps_ret (pe_call (I.are2 T) hr (by rfl) I.gA I.FA.kp I.bA .nil pass0 (pa_cons (pv 0) (pa_cons (pe_glob (v := .ref fL) (by rfl) I.gL rfl) pa_nil)))), ?_⟩
    exact ⟨_, rfl, v, l, rfl, tv, ok, q⟩
end
end K4
/-! C13_Draw: the law's own drawing of numbers. -/
namespace K4
open PySem PySem.Spec PyProof.Rows L2

/-- all but d stays -/
def But (d : Addr) (H H' : Hp) : Prop := ∀ b o, H b = some o → b ≠ d → H' b = some o
theorem But.refl {d : Addr} {H : Hp} : But d H H := fun _ _ e _ => e
theorem But.trans {d : Addr} {H H1 H2 : Hp} (a : But d H H1) (b : But d H1 H2) : But d H H2 := fun c o e h => b c o (a c o e h) h
theorem But.same {d : Addr} {H H1 : Hp} (a : Same H H1) : But d H H1 := fun c o e _ => a c o e
theorem But.upd {d : Addr} {H : Hp} {o : HO} : But d H (upd H d o) := fun c u e h => by
  rw [upd_ne h]
  exact e
theorem But.ts {K : PySem.W.Frag} {d : Addr} {H H1 : Hp} {ys : List V} (a : But d H H1) (hd : H d = some (.lst ys)) : TS K H H1 := fun c xs q => by
  rcases q with (q | ⟨ob, q⟩) | q
  · exact .inl (.inl (a _ _ q fun e => by rw [e, hd] at q; cases q))
  · exact .inl (.inr ⟨ob, a _ _ q fun e => by rw [e, hd] at q; cases q⟩)
  · exact .inr q
/-- the drawing list at d, at its n-th number -/
def Drw (H : Hp) (d sc : Addr) (ns : List Int) (n : Nat) : Prop := H d = some (.lst [.ref sc, .int 0, .int (n : Nat)]) ∧ H sc = some (.lst (ns.map V.int)) ∧ sc ≠ d
theorem Drw.same {H H' : Hp} {d sc : Addr} {ns : List Int} {n : Nat} (h : Drw H d sc ns n) (s : Same H H') : Drw H' d sc ns n := ⟨s _ _ h.1, s _ _ h.2.1, h.2.2⟩
theorem Drw.upd {H : Hp} {d sc x : Addr} {ns : List Int} {n : Nat} {o : HO} (h : Drw H d sc ns n) (h1 : x ≠ d) (h2 : x ≠ sc) : Drw (upd H x o) d sc ns n :=
  ⟨by rw [upd_ne (Ne.symm h1)]; exact h.1, by rw [upd_ne (Ne.symm h2)]; exact h.2.1, h.2.2⟩
theorem Drw.ne {H : Hp} {d sc x : Addr} {ns : List Int} {n : Nat} (h : Drw H d sc ns n) (hx : H x = none) : x ≠ d ∧ x ≠ sc := ⟨(ne_of_none h.1 hx).symm, (ne_of_none h.2.1 hx).symm⟩
theorem But.at {d D : Addr} {H H1 : Hp} {o : HO} (a : But d H H1) (hD : H D = none) : But d H (L2.upd H1 D o) := fun c u e h => by
  rw [upd_ne (ne_of_none e hD)]
  exact a _ _ e h
/-- a comprehension that draws three numbers -/
theorem lc_draw {J : It} {G : Hp → Prop} {Y : Nat → Hp → V → Hp → Prop} (wk : Walk J 3 G Y) {te : TE} {j : Nat} {σ : L2.St} {H1 : Hp} {D d sc : Addr} {ns : List Int} {k : Nat} {Qd : Hp → Prop} (R : Nat → Int → Prop) (nD : H1 D = none) (dr : Drw H1 d sc ns k)
    (hG : ∀ H, But d H1 H → G H) (hY : ∀ i H x H', Y i H x H' → H' = H)
    (hs : ∀ i x H (Q : VK), i < 3 → But d H1 H → Drw H d sc ns (k + i) → Y i H x H → (∀ y H', But d H H' → Drw H' d sc ns (k + i + 1) → R i y → Q (.int y) H') → te ((σ.set j none).set j (some x)) H Q)
    (hd : ∀ y0 y1 y2 H, But d H1 H → Drw H d sc ns (k + 3) → H D = some (.lst [.int y0, .int y1, .int y2]) → R 0 y0 → R 1 y1 → R 2 y2 → Qd H) :
    ∃ W : Nat → Nat → Hp → Prop, (∃ m, W 0 m (L2.upd H1 D (.lst []))) ∧ ∀ i m H, W i m H →
      (J.stop i H ∧ Qd H) ∨ (J.go i H ∧ ∃ Nx : Hp → Prop, (∀ H', Nx H' → ∃ m', m' < m ∧ W (i + 1) m' H') ∧ ∀ x H', J.yld i H x H' → gName j x (wipe σ [j]) H' fun σ2 H2 => wipe σ2 [j] = wipe σ [j] ∧ tYes σ2 H2 fun b H3 =>
        if b = true then te σ2 H3 fun y H4 => ∃ acc, H4 D = some (.lst acc) ∧ acc.length < sizeLine ∧ Nx (L2.upd H4 D (.lst (acc ++ [y]))) else Nx H3) := by
  obtain ⟨n1, n2⟩ := dr.ne nD
  refine lc_it wk (fun i H => But d H1 H ∧ Drw H d sc ns (k + i) ∧ ∃ ys : List Int, H D = some (.lst (ys.map V.int)) ∧ ys.length = i ∧ ∀ m y, ys[m]? = some y → R m y)
    ⟨But.refl.at nD, dr.upd n1 n2, [], upd_same, rfl, fun m y e => by simp at e⟩ (fun i H _ h => hG H h.1) ?_ ?_
  · rintro i x H H' hi ⟨bt, dr', ys, hD, hl, hR⟩ hy
    have e := hY _ _ _ _ hy
    subst e
    refine ⟨?_, ?_⟩
    · show ((σ.set j none).set j (some x)).set j none = σ.set j none
      rw [List.set_set, List.set_set]
    · refine hs i x H' _ hi bt dr' hy fun y H4 b4 d4 r4 => ⟨_, b4 _ _ hD n1, small1000 (by rw [List.length_map]; omega), (bt.trans b4).at nD, d4.upd n1 n2, ys ++ [y], ?_, by rw [List.length_append, hl]; rfl, fun m z e => ?_⟩
      · rw [upd_same, List.map_append]
        rfl
      · by_cases hm : m < ys.length
        · rw [List.getElem?_append_left hm] at e
          exact hR m z e
        · rw [List.getElem?_append_right (by omega)] at e
          have h0 : m - ys.length = 0 := by
            by_cases h : m - ys.length = 0
            · exact h
            · rw [List.getElem?_eq_none (by show 1 ≤ _; omega)] at e
              cases e
          rw [h0] at e
          have ez := Option.some.inj e
          subst ez
          rw [show m = i by omega]
          exact r4
  · rintro H ⟨bt, dr', ys, hD, hl, hR⟩
    match ys, hl, hD, hR with
    | [y0, y1, y2], _, hD, hR => exact hd y0 y1 y2 H bt dr' hD (hR 0 y0 rfl) (hR 1 y1 rfl) (hR 2 y2 rfl)
section
variable {P : Program} {w : World} {K : PySem.W.Frag} {mg : Str → Option Value} {base : Heap} {ax : Addr}
/-! ### a cell of the script -/
theorem scCellAt : FnScope ["_law_script", "_law_k"] ["_law_script", "_law_k"] (defScope sCellAt) := ⟨rfl, rfl, rfl, by decide +kernel, rfl, by decide +kernel, by decide +kernel⟩
def spCellAt (K : PySem.W.Frag) : Sp := fun vs H Q _ => ∃ (sc : Addr) (ns : List Int) (k : Nat), vs = [.ref sc, .int (k : Nat)] ∧ SqL K H sc (ns.map V.int) ∧ ∀ c : Int, Q (.int c) H
theorem ok_cellAt {f : Addr} {fd : FuncData} (F : Fun K "_law_cell_at" "_law_cell_at" sCellAt f fd) (T : Txt K mg ax) : FnOk P w K mg base CX0 1 f fd ["_law_script", "_law_k"] (spCellAt K) := by
  refine F.ok scCellAt (fun vs H Q E h => ?_) (fun cdv A outer s H vs Q E hr h => ?_)
  · obtain ⟨sc, ns, k, rfl, _⟩ := h
    rfl
  · obtain ⟨sc, ns, k, rfl, hs, q⟩ := h
    refine ⟨_, pss_cons (ps_if (pt_cmpR op_lt (pv 1) (pe_callB call_len_seq (by rfl) T.len PySem.boot_len (pa_cons (pv 0) pa_nil)) (nomark _)) (pss_one (ps_ret (pe_ix ix_list (pv 0) (pv 1) (fun _ _ => rfl)))) pss_nil)
      (pss_one (ps_ret pe_int)), ?_⟩
    refine ⟨_, rfl, _, rfl, sc, _, rfl, .inl hs, _, _, rfl, rfl, _, rfl, ?_⟩
    by_cases hk : k < ns.length
    · rw [decide_eq_true (by rw [List.length_map]; omega)]
      refine iteT ⟨_, rfl, _, rfl, sc, _, (k : Nat), .int ns[k], rfl, rfl, hs, atI_nat (j := k) ?_, q _⟩
      rw [List.getElem?_map, List.getElem?_eq_getElem hk]
      rfl
    · rw [decide_eq_false (by rw [List.length_map]; omega)]
      exact iteF (q 0)
/-! ### a draw -/
theorem scDraw : FnScope ["_law_cell", "_law_k", "_law_bound", "_law_primes"] ["_law_cell", "_law_k", "_law_bound"] (defScope sDraw) := ⟨rfl, rfl, rfl, by decide +kernel, rfl, by decide +kernel, by decide +kernel⟩
def primes : List Int := [1000003, 1000033, 1000037, 1000039, 1000081, 1000099, 1000117, 1000121, 1000133, 1000151, 1000159, 1000171, 1000183, 1000187, 1000193, 1000199]
theorem prime_pos : ∀ p ∈ primes, 0 < p := by decide
def spDraw : Sp := fun vs H Q _ => ∃ (c k b : Int), vs = [.int c, .int k, .int b] ∧ (0 ≤ k ∧ k < 16) ∧ 0 < b ∧ ∀ (r : Int) (H' : Hp), Same H H' → 0 ≤ r → r < b → Q (.int r) H'
theorem ok_draw {f : Addr} {fd : FuncData} (F : Fun K "_law_draw" "_law_draw" sDraw f fd) (T : Txt K mg ax) : FnOk P w K mg base CX0 1 f fd ["_law_cell", "_law_k", "_law_bound"] spDraw := by
  refine F.ok scDraw (fun vs H Q E h => ?_) (fun cdv A outer s H vs Q E hr h => ?_)
  · obtain ⟨c, k, b, rfl, _⟩ := h
    rfl
  · obtain ⟨c, k, b, rfl, hk, hb, q⟩ := h
    refine ⟨_, pss_cons (ps_set (i := 3) scDraw.nd rfl (.inl rfl) (pe_tup (pa_cons pe_int (pa_cons pe_int (pa_cons pe_int (pa_cons pe_int (pa_cons pe_int (pa_cons pe_int (pa_cons pe_int (pa_cons pe_int (pa_cons pe_int (pa_cons pe_int (pa_cons pe_int (pa_cons pe_int (pa_cons pe_int (pa_cons pe_int (pa_cons pe_int (pa_cons pe_int pa_nil))))))))))))))))))
      (pss_one (ps_ret (pe_op op_mod (pe_op op_mod (pe_callTy call_int1 (by rfl) T.int (by decide +kernel) (pa_cons (pe_op op_add (pe_op op_mul (pv 0) pe_int) (pe_op op_mul (pv 1) pe_int)) pa_nil))
        (pe_ix ix_tup (pv 3) (pe_op op_mod (pe_callTy call_int1 (by rfl) T.int (by decide +kernel) (pa_cons (pv 1) pa_nil)) pe_int) (fun _ _ => rfl))) (pv 2)))), ?_⟩
    refine ⟨by decide, fun p np => ?_⟩
    have sp : Same H (upd H p (.tup (primes.map V.int))) := same_new np
    have hs : SqT K (upd H p (.tup (primes.map V.int))) p (primes.map V.int) := seqT_new
    obtain ⟨j, rfl⟩ : ∃ j : Nat, k = (j : Int) := ⟨k.toNat, by omega⟩
    have hj : j < primes.length := by
      show j < 16
      omega
    have hm : ((j : Nat) : Int) % 16 = ((j : Nat) : Int) := by omega
    have hg : (primes.map V.int)[j]? = some (.int primes[j]) := by
      rw [List.getElem?_map, List.getElem?_eq_getElem hj]
      rfl
    have hp := prime_pos primes[j] (List.getElem_mem hj)
    refine ⟨_, rfl, _, _, rfl, rfl, .inr (by decide), _, rfl, _, _, rfl, rfl, .inr (by decide), _, _, rfl, rfl, .inl ⟨_, rfl, ?_⟩⟩
    refine ⟨_, rfl, _, rfl, .inl ⟨_, rfl, _, _, rfl, rfl, (by decide : (0 : Int) < 16), p, primes.map V.int, _, .int primes[j], rfl, rfl, hs, by rw [hm]; exact atI_nat hg, _, _, rfl, rfl, hp, _, rfl, _, _, rfl, rfl, hb, ?_⟩⟩
    exact q _ _ sp (Int.emod_nonneg _ (by omega)) (Int.emod_lt_of_pos _ hb)
/-! ### a number -/
theorem scNumber : FnScope ["_law_cell", "_law_k", "_law_bound", "_law_power", "_law_lap", "_law_remains", "_law_small"] ["_law_cell", "_law_k", "_law_bound"] (defScope sNumber) := ⟨rfl, rfl, rfl, by decide +kernel, rfl, by decide +kernel, by decide +kernel⟩
def spNumber : Sp := fun vs H Q _ => ∃ (c k b : Int), vs = [.int c, .int k, .int b] ∧ (1 ≤ k ∧ k ≤ 12) ∧ 0 < b ∧ ∀ (r : Int) (H' : Hp), Same H H' → 0 ≤ r → r < b → Q (.int r) H'
theorem pow_nat (n : Nat) : ((1009 : Int) ^ n).natAbs = 1009 ^ n := by rw [Int.natAbs_pow]; rfl
theorem pow_lt {n : Nat} (h : n ≤ 12) : (1009 : Nat) ^ n < 2 ^ 200 := Nat.lt_of_le_of_lt (Nat.pow_le_pow_right (by decide) h) (by decide)
theorem ok_number {f fD : Addr} {fd fdD : FuncData} (F : Fun K "_law_number" "_law_number" sNumber f fd) (FD : Fun K "_law_draw" "_law_draw" sDraw fD fdD) (bD : Binds K fdD ["_law_cell", "_law_k", "_law_bound"] []) (gD : mg "_law_draw" = some (.ref fD))
    (T : Txt K mg ax) : FnOk P w K mg base CX0 2 f fd ["_law_cell", "_law_k", "_law_bound"] spNumber := by
  have GD : FnOk P w K mg base CX0 1 fD fdD ["_law_cell", "_law_k", "_law_bound"] spDraw := ok_draw FD T
  refine F.ok scNumber (fun vs H Q E h => ?_) (fun cdv A outer s H vs Q E hr h => ?_)
  · obtain ⟨c, k, b, rfl, _⟩ := h
    rfl
  · obtain ⟨c, k, b, rfl, hk, hb, q⟩ := h
    refine ⟨_, pss_cons (ps_set (i := 3) scNumber.nd rfl (.inl rfl) pe_int)
      (pss_cons (ps_for PassesOwn.never rfl (pi_range1 (by rfl) T.range (pa_cons (pe_op op_mod (pe_callTy call_int1 (by rfl) T.int (by decide +kernel) (pa_cons (pv 1) pa_nil)) pe_int) pa_nil)) (pg_name (i := 4) scNumber.nd rfl (.inl rfl))
        (pss_one (ps_set (i := 3) scNumber.nd rfl (.inl rfl) (pe_op op_mul (pv 3) pe_int))))
      (pss_cons (ps_set (i := 5) scNumber.nd rfl (.inl rfl) (pe_op op_fdivW (pe_op op_sub (pv 0) (pe_op op_pow pe_int pe_int)) (pv 3)))
      (pss_cons (ps_if (pt_cmpR op_gt (pv 5) pe_int (nomark _)) (pss_one (ps_ret (pe_op op_mod (pe_op op_mod (pe_callTy call_int1 (by rfl) T.int (by decide +kernel) (pa_cons (pv 5) pa_nil)) pe_int) (pv 2)))) pss_nil)
      (pss_cons (ps_set (i := 6) scNumber.nd rfl (.inl rfl) (pe_op op_mod (pe_callTy call_int1 (by rfl) T.int (by decide +kernel) (pa_cons (pv 0) pa_nil)) pe_int))
      (pss_one (ps_ret (pe_op op_mod (pe_call GD hr (by rfl) gD FD.kp bD .nil pass0 (pa_cons (pe_op op_mul (pe_op op_add (pv 6) (pe_op op_mul pe_int (pv 1))) (pe_op op_add (pe_op op_add (pv 6) (pe_op op_mul pe_int (pv 1))) pe_int))
        (pa_cons (pe_op op_add (pe_op op_mod (pe_callTy call_int1 (by rfl) T.int (by decide +kernel) (pa_cons (pv 1) pa_nil)) pe_int) pe_int) (pa_cons pe_int pa_nil)))) (pv 2)))))))), ?_⟩
    have hm : (k % 24).toNat ≤ 12 := by omega
    refine ⟨_, rfl, .inl ⟨_, rfl, _, _, rfl, rfl, (by decide : (0 : Int) < 24), _, rfl, by omega, by omega, ?_⟩⟩
    refine for_it (walk_range (lo := 0) (n := (k % 24).toNat)) (fun i σ H3 => H3 = H ∧ ∃ y4, σ = [some (.int c), some (.int k), some (.int b), some (.int ((1009 : Int) ^ i)), y4, none, none]) ⟨rfl, none, rfl⟩ (fun i σ H3 _ _ => trivial) ?_ ?_
    · rintro i x σ H3 H4 hi ⟨rfl, y4, rfl⟩ ⟨rfl, rfl⟩
      refine ⟨_, rfl, _, _, rfl, rfl, .inr (by decide), ?_⟩
      refine ⟨rfl, some (.int (0 + (i : Nat))), ?_⟩
      rw [show (1009 : Int) ^ (i + 1) = (1009 : Int) ^ i * 1009 from Int.pow_succ ..]
      rfl
    · rintro σ H3 ⟨rfl, y4, rfl⟩
      generalize hn : (k % 24).toNat = n at hm
      have hpos : (0 : Int) < 1009 ^ n := Int.pow_pos (by decide)
      have hdiv : CDivW (c - 10 ^ (18 : Int).toNat) ((1009 : Int) ^ n) := wide_div (b := 200) hpos (by rw [pow_nat]; exact pow_lt hm) (by decide) (by decide)
      refine ⟨_, rfl, _, _, rfl, rfl, ⟨by decide, by decide, by decide⟩, _, _, rfl, rfl, _, rfl, _, _, rfl, rfl, hdiv, ?_⟩
      generalize hrm : (c - 10 ^ (18 : Int).toNat) / (1009 : Int) ^ n = rm
      refine ⟨_, rfl, _, _, rfl, rfl, _, rfl, ?_⟩
      by_cases hgt : 0 < rm
      · rw [decide_eq_true (by omega)]
        refine iteT ⟨_, rfl, .inl ⟨_, rfl, _, _, rfl, rfl, (by decide : (0 : Int) < 1009), _, rfl, _, _, rfl, rfl, hb, ?_⟩⟩
        exact q _ _ (Same.refl _) (Int.emod_nonneg _ (by omega)) (Int.emod_lt_of_pos _ hb)
      · rw [decide_eq_false (by omega)]
        refine iteF ⟨_, rfl, .inl ⟨_, rfl, _, _, rfl, rfl, (by decide : (0 : Int) < 1000003), ?_⟩⟩
        have s1 : 0 ≤ c % 1000003 := Int.emod_nonneg _ (by decide)
        have s2 : c % 1000003 < 1000003 := Int.emod_lt_of_pos _ (by decide)
        generalize hsm : c % 1000003 = sm at *
        refine ⟨_, rfl, _, rfl, _, _, rfl, rfl, .inl (by decide), _, _, rfl, rfl, _, rfl, _, rfl, _, _, rfl, rfl, .inl (by decide), _, _, rfl, rfl, _, _, rfl, rfl, _, _, rfl, rfl, .inl ⟨by omega, by omega⟩, ?_⟩
        refine ⟨_, rfl, .inl ⟨_, rfl, _, _, rfl, rfl, (by decide : (0 : Int) < 9), _, _, rfl, rfl, _, _, _, rfl, by omega, by decide, fun r H' sH h0 h1 => ?_⟩⟩
        refine ⟨_, rfl, _, _, rfl, rfl, hb, ?_⟩
        exact q _ _ sH (Int.emod_nonneg _ (by omega)) (Int.emod_lt_of_pos _ hb)
/-! ### the next number -/
theorem scNext : FnScope ["_law_draw_here", "_law_bound", "_law_at", "_law_cell"] ["_law_draw_here", "_law_bound"] (defScope sNext) := ⟨rfl, rfl, rfl, by decide +kernel, rfl, by decide +kernel, by decide +kernel⟩
def spNext : Sp := fun vs H Q _ => ∃ (d sc : Addr) (ns : List Int) (n : Nat) (b : Int), vs = [.ref d, .int b] ∧ Drw H d sc ns n ∧ n < 200 ∧ 0 < b ∧ ∀ (r : Int) (H' : Hp), But d H H' → Drw H' d sc ns (n + 1) → 0 ≤ r → r < b → Q (.int r) H'
theorem ok_next {f fD fC fN : Addr} {fd fdD fdC fdN : FuncData} (F : Fun K "_law_next" "_law_next" sNext f fd) (FD : Fun K "_law_draw" "_law_draw" sDraw fD fdD) (bD : Binds K fdD ["_law_cell", "_law_k", "_law_bound"] []) (gD : mg "_law_draw" = some (.ref fD))
    (FC : Fun K "_law_cell_at" "_law_cell_at" sCellAt fC fdC) (bC : Binds K fdC ["_law_script", "_law_k"] []) (gC : mg "_law_cell_at" = some (.ref fC))
    (FN : Fun K "_law_number" "_law_number" sNumber fN fdN) (bN : Binds K fdN ["_law_cell", "_law_k", "_law_bound"] []) (gN : mg "_law_number" = some (.ref fN))
    (T : Txt K mg ax) : FnOk P w K mg base CX0 3 f fd ["_law_draw_here", "_law_bound"] spNext := by
  have GC : FnOk P w K mg base CX0 1 fC fdC ["_law_script", "_law_k"] (spCellAt K) := ok_cellAt FC T
  have GN : FnOk P w K mg base CX0 2 fN fdN ["_law_cell", "_law_k", "_law_bound"] spNumber := ok_number FN FD bD gD T
  refine F.ok scNext (fun vs H Q E h => ?_) (fun cdv A outer s H vs Q E hr h => ?_)
  · obtain ⟨d, sc, ns, n, b, rfl, _⟩ := h
    rfl
  · obtain ⟨d, sc, ns, n, b, rfl, ⟨hd, hsc, hne⟩, hn, hb, q⟩ := h
    have hr1 : Room 1 _ := hr.mono (by decide)
    refine ⟨_, pss_cons (ps_asg (pe_op op_add (pe_ix ix_list (pv 0) pe_int (fun _ _ => rfl)) pe_int) (pg_sub (pv 0) pe_int set_list))
      (pss_cons (ps_set (i := 2) scNext.nd rfl (.inl rfl) (pe_op op_fdiv (pe_ix ix_list (pv 0) pe_int (fun _ _ => rfl)) pe_int))
      (pss_cons (ps_set (i := 3) scNext.nd rfl (.inl rfl) (pe_op op_add (pe_call GC hr1 (by rfl) gC FC.kp bC .nil pass0 (pa_cons (pe_ix ix_list (pv 0) pe_int (fun _ _ => rfl)) (pa_cons (pe_op op_add (pe_ix ix_list (pv 0) pe_int (fun _ _ => rfl)) (pv 2)) pa_nil))) (pe_op op_mul pe_int (pv 2))))
      (pss_one (ps_ret (pe_call GN hr (by rfl) gN FN.kp bN .nil pass0 (pa_cons (pv 3) (pa_cons (pe_op op_add (pe_op op_mod (pe_callTy call_int1 (by rfl) T.int (by decide +kernel) (pa_cons (pe_ix ix_list (pv 0) pe_int (fun _ _ => rfl)) pa_nil)) pe_int) pe_int) (pa_cons (pv 1) pa_nil)))))))), ?_⟩
    have hS : ∀ {H' : Hp} {xs : List V}, H' d = some (.lst xs) → SqL K H' d xs := fun h => .inl (.inl h)
    have at2 : ∀ m : Int, atI [V.ref sc, .int 0, .int m] (2 : Int) = some (.int m) := fun m => atI_nat (j := 2) rfl
    refine ⟨_, rfl, d, _, 2, _, rfl, rfl, .inl (.inl hd), at2 _, _, _, rfl, rfl, ?_⟩
    refine ⟨_, rfl, d, _, 2, 2, rfl, rfl, hd, rfl, ?_⟩
    have e1 : [V.ref sc, .int 0, .int (n : Nat)].set 2 (.int (((n : Nat) : Int) + 1)) = [V.ref sc, .int 0, .int (((n : Nat) : Int) + 1)] := rfl
    rw [e1]
    have bt : But d H (upd H d (.lst [V.ref sc, .int 0, .int (((n : Nat) : Int) + 1)])) := But.upd
    have hd1 : (upd H d (.lst [V.ref sc, .int 0, .int (((n : Nat) : Int) + 1)])) d = some (.lst [V.ref sc, .int 0, .int (((n : Nat) : Int) + 1)]) := upd_same
    generalize hH1 : upd H d (.lst [V.ref sc, .int 0, .int (((n : Nat) : Int) + 1)]) = H1 at *
    have hsc1 := bt _ _ hsc hne
    refine ⟨_, rfl, d, _, 2, _, rfl, rfl, .inl (.inl hd1), at2 _, _, _, rfl, rfl, ⟨by decide, by decide⟩, ?_⟩
    have hat : (((n : Nat) : Int) + 1) / 12 = (((n + 1) / 12 : Nat) : Int) := by omega
    show gName 2 (V.int ((((n : Nat) : Int) + 1) / 12)) _ _ _
    rw [hat]
    refine ⟨_, rfl, d, _, 0, _, rfl, rfl, .inl (.inl hd1), atI_nat (j := 0) rfl, _, rfl, d, _, 1, _, rfl, rfl, .inl (.inl hd1), atI_nat (j := 1) rfl, _, rfl, _, _, rfl, rfl, sc, ns, (n + 1) / 12, ?_, .inl (.inl hsc1), fun c => ?_⟩
    · show [V.ref sc, V.int (0 + (((n + 1) / 12 : Nat) : Int))] = _
      rw [Int.zero_add]
    refine ⟨_, rfl, _, _, rfl, rfl, .inl (by decide), _, _, rfl, rfl, ?_⟩
    refine ⟨_, rfl, _, rfl, d, _, 2, _, rfl, rfl, .inl (.inl hd1), at2 _, .inl ⟨_, rfl, _, _, rfl, rfl, (by decide : (0 : Int) < 12), _, _, rfl, rfl, _, rfl, _, _, _, rfl, by omega, hb, fun r H' sH h0 h1 => ?_⟩⟩
    refine q r H' (bt.trans (But.same sH)) ⟨?_, sH _ _ hsc1, hne⟩ h0 h1
    rw [sH _ _ hd1]
    rfl
end
end K4
/-! C14_LBoxes: drawn boxes; a point moved by another one. -/
namespace K4
open PySem PySem.Spec PyProof.Rows L2

/-- the defs that draw -/
structure DDefs (K : PySem.W.Frag) (mg : Str → Option Value) (fD fC fN fX : Addr) (dD dC dN dX : FuncData) : Prop where
  FD : Fun K "_law_draw" "_law_draw" sDraw fD dD
  bD : Binds K dD ["_law_cell", "_law_k", "_law_bound"] []
  gD : mg "_law_draw" = some (.ref fD)
  FC : Fun K "_law_cell_at" "_law_cell_at" sCellAt fC dC
  bC : Binds K dC ["_law_script", "_law_k"] []
  gC : mg "_law_cell_at" = some (.ref fC)
  FN : Fun K "_law_number" "_law_number" sNumber fN dN
  bN : Binds K dN ["_law_cell", "_law_k", "_law_bound"] []
  gN : mg "_law_number" = some (.ref fN)
  FX : Fun K "_law_next" "_law_next" sNext fX dX
  bX : Binds K dX ["_law_draw_here", "_law_bound"] []
  gX : mg "_law_next" = some (.ref fX)
def spLBoxes (K : PySem.W.Frag) : Sp := fun vs H Q _ => ∃ (d sc : Addr) (ns : List Int) (n : Nat) (wd : Int), vs = [.ref d, .int 3, .int wd] ∧ Drw H d sc ns n ∧ n ≤ 100 ∧ (0 < wd ∧ wd ≤ 4) ∧
  ∀ (H' : Hp) (l : Addr) (ys : List V) (bs : List Box) (n' : Nat), But d H H' → Drw H' d sc ns n' → n' ≤ n + 13 → H l = none → H' l = some (.lst ys) → TpAll K H' ys (bs.map boxD) → bs.length ≤ 2 → (∀ b ∈ bs, small b ∧ rngB (-1) (wd + 1) b) → Q (.ref l) H'
theorem small_of {x y z a b c wd : Int} (hx : -1 ≤ x ∧ x ≤ wd - 2) (hy : -1 ≤ y ∧ y ≤ wd - 2) (hz : -1 ≤ z ∧ z ≤ wd - 2) (ha : x + 1 ≤ a ∧ a ≤ x + 3) (hb : y + 1 ≤ b ∧ b ≤ y + 3) (hc : z + 1 ≤ c ∧ c ≤ z + 3) :
    small ((x, y, z), (a, b, c)) ∧ rngB (-1) (wd + 1) ((x, y, z), (a, b, c)) := by
  unfold small wide rngB
  refine ⟨⟨⟨?_, ?_, ?_⟩, ?_, ?_, ?_⟩, ⟨?_, ?_⟩, ⟨?_, ?_⟩, ?_, ?_⟩ <;> dsimp only <;> omega
section
variable {P : Program} {w : World} {K : PySem.W.Frag} {mg : Str → Option Value} {base : Heap} {ax : Addr}
variable {fD fC fN fX : Addr} {dD dC dN dX : FuncData}
theorem DDefs.next (D : DDefs K mg fD fC fN fX dD dC dN dX) (T : Txt K mg ax) : FnOk P w K mg base CX0 3 fX dX ["_law_draw_here", "_law_bound"] spNext :=
  ok_next D.FX D.FD D.bD D.gD D.FC D.bC D.gC D.FN D.bN D.gN T
theorem scLBoxes : FnScope ["_law_draw_here", "_law_many", "_law_wide", "_law_found", "_law_turn", "_law_low", "_law_axis", "_law_one"] ["_law_draw_here", "_law_many", "_law_wide"] (defScope sLBoxes) := ⟨rfl, rfl, rfl, by decide +kernel, rfl, by decide +kernel, by decide +kernel⟩
theorem ok_LBoxes {f : Addr} {fd : FuncData} (F : Fun K "_law_boxes" "_law_boxes" sLBoxes f fd) (D : DDefs K mg fD fC fN fX dD dC dN dX) (T : Txt K mg ax) : FnOk P w K mg base CX0 4 f fd ["_law_draw_here", "_law_many", "_law_wide"] (spLBoxes K) := by
  have GX : FnOk P w K mg base CX0 3 fX dX ["_law_draw_here", "_law_bound"] spNext := D.next T
  refine F.ok scLBoxes (fun vs H Q E h => ?_) (fun cdv A outer s H vs Q E hr h => ?_)
  · obtain ⟨d, sc, ns, n, wd, rfl, _⟩ := h
    rfl
  · obtain ⟨d, sc, ns, n, wd, rfl, dr, hn, hw, q⟩ := h
    refine ⟨_, pss_cons (ps_set (i := 3) scLBoxes.nd rfl (.inl rfl) (pe_lst pa_nil))
      (pss_cons (ps_for PassesOwn.never rfl (pi_range1 (by rfl) T.range (pa_cons (pe_call GX hr (by rfl) D.gX D.FX.kp D.bX .nil pass0 (pa_cons (pv 0) (pa_cons (pv 1) pa_nil))) pa_nil)) (pg_name (i := 4) scLBoxes.nd rfl (.inl rfl))
        (pss_cons (ps_set (i := 5) scLBoxes.nd rfl (.inl rfl) (pe_callTy (call_tuple_ofK K) (by rfl) T.tuple (by decide +kernel) (pa_cons
            (pe_lc (own := [("_law_axis", 6)]) (g := gName 6) (tt := tYes) rfl scLBoxes.nd (pi_range1 (by rfl) T.range (pa_cons pe_int pa_nil)) (blkOk_by (N := ["_law_draw_here", "_law_many", "_law_wide", "_law_found", "_law_turn", "_law_low", "_law_axis", "_law_one"]) (sc := defScope sLBoxes) (by decide +kernel))
              (fun _ _ _ _ _ => pg_name (i := 6) scLBoxes.nd rfl (.inl rfl)) (fun _ _ _ _ _ => pts_nil)
              (fun _ _ _ _ _ => pe_op op_sub (pe_call GX hr (by rfl) D.gX D.FX.kp D.bX .nil pass0 (pa_cons (pv 0) (pa_cons (pv 2) pa_nil))) pe_int)) pa_nil)))
        (pss_one (ps_expr (pe_bm PySem.F.plainAttrs_list PySem.F.slot_list_append PySem.F.type_list_append mt_append (pv 3) (pa_cons (pe_tup (pa_cons (pv 5) (pa_cons (pe_callTy (call_tuple_ofK K) (by rfl) T.tuple (by decide +kernel) (pa_cons
            (pe_lc (own := [("_law_one", 7)]) (g := gName 7) (tt := tYes) rfl scLBoxes.nd (pi_tup (pv 5)) (blkOk_by (N := ["_law_draw_here", "_law_many", "_law_wide", "_law_found", "_law_turn", "_law_low", "_law_axis", "_law_one"]) (sc := defScope sLBoxes) (by decide +kernel))
              (fun _ _ _ _ _ => pg_name (i := 7) scLBoxes.nd rfl (.inl rfl)) (fun _ _ _ _ _ => pts_nil)
              (fun _ _ _ _ _ => pe_op op_add (pe_op op_add (pv 7) pe_int) (pe_call GX hr (by rfl) D.gX D.FX.kp D.bX .nil pass0 (pa_cons (pv 0) (pa_cons pe_int pa_nil))))) pa_nil)) pa_nil))) pa_nil))))))
      (pss_one (ps_ret (pv 3)))), ?_⟩
    refine ⟨Nat.zero_le _, fun l nl => ?_⟩
    have s0 : Same H (upd H l (.lst [])) := same_new nl
    obtain ⟨nd, nsc⟩ := dr.ne nl
    refine ⟨_, rfl, _, rfl, d, sc, ns, n, 3, rfl, dr.upd nd nsc, by omega, by decide, fun r H1 b1 d1 h0 h1 => ?_⟩
    have hl1 := b1 _ _ (show (upd H l (.lst [])) l = some (.lst []) from upd_same) nd
    have b01 : But d H H1 := (But.same s0).trans b1
    refine ⟨r, rfl, by omega, by omega, ?_⟩
    refine for_it (walk_range (lo := 0) (n := r.toNat)) (fun i σ H3 => ∃ (ys : List V) (bs : List Box) (y4 y5 : Option V), σ = [some (.ref d), some (.int 3), some (.int wd), some (.ref l), y4, y5, none, none] ∧ But d H H3 ∧ H3 l = some (.lst ys) ∧ Drw H3 d sc ns (n + 1 + 6 * i) ∧ TpAll K H3 ys (bs.map boxD) ∧ bs.length = i ∧ ∀ b ∈ bs, small b ∧ rngB (-1) (wd + 1) b)
      ⟨[], [], none, none, rfl, b01, hl1, d1, .nil, rfl, fun b hb => (nomatch hb)⟩ (fun i σ H3 _ _ => trivial) ?_ ?_
    · rintro i x σ H3 H4 hi ⟨ys, bs, y4, y5, rfl, b3, hl3, d3, al3, hbl, hbs⟩ ⟨rfl, rfl⟩
      -- low
      refine ⟨3, rfl, by decide, by decide, fun D1 nD1 => ?_⟩
      refine lc_draw (walk_range (lo := 0) (n := 3)) (fun _ y => -1 ≤ y ∧ y ≤ wd - 2) nD1 d3 (fun _ _ => trivial) (fun i H x H' h => h.1) (fun j x H Q hj b5 d5 hy qy => ?_) (fun x y z H5 b5 d5 hD1 rx ry rz => ?_)
      · refine ⟨_, rfl, _, rfl, d, sc, ns, _, wd, rfl, d5, by omega, hw.1, fun rr H6 b6 d6 g0 g1 => ?_⟩
        exact ⟨_, _, rfl, rfl, qy _ _ b6 d6 ⟨by omega, by omega⟩⟩
      refine ⟨D1, _, rfl, .inl ⟨.inl (.inl hD1), fun u1 n1 => ?_⟩⟩
      have q1 := same_new (o := .tup [.int x, .int y, .int z]) n1
      have t1 : SqT K (upd H5 u1 (.tup [.int x, .int y, .int z])) u1 [.int x, .int y, .int z] := seqT_new
      have b51 : But d H4 (upd H5 u1 (.tup [.int x, .int y, .int z])) := b5.trans (But.same q1)
      have d51 := d5.same q1
      generalize hH7 : upd H5 u1 (.tup [.int x, .int y, .int z]) = H7 at *
      have hl7 := b51 _ _ hl3 nd
      -- high
      refine ⟨_, rfl, .inl ⟨rfl, _, .inl (.inl hl7)⟩, _, rfl, _, rfl, u1, rfl, ⟨_, t1⟩, fun D2 nD2 => ?_⟩
      refine lc_draw (walk_tup (K := K) (a := u1) (xs := [.int x, .int y, .int z])) (fun i v => ∃ c, [x, y, z][i]? = some c ∧ c + 1 ≤ v ∧ v ≤ c + 3) nD2 d51 (fun H' b' => b'.ts d51.1 _ _ t1) (fun i H x H' h => h.1) (fun j x' H Q hj b8 d8 hy qy => ?_) (fun a b c H8 b8 d8 hD2 ra rb rc => ?_)
      · obtain ⟨c, hc, rfl⟩ : ∃ c : Int, [x, y, z][j]? = some c ∧ x' = .int c := by
          have h2 := hy.2
          match j, hj with
          | 0, _ => exact ⟨x, rfl, (Option.some.inj h2).symm⟩
          | 1, _ => exact ⟨y, rfl, (Option.some.inj h2).symm⟩
          | 2, _ => exact ⟨z, rfl, (Option.some.inj h2).symm⟩
        refine ⟨_, rfl, _, _, rfl, rfl, _, rfl, d, sc, ns, _, 3, rfl, d8, by omega, by decide, fun rr H6 b6 d6 g0 g1 => ?_⟩
        exact ⟨_, _, rfl, rfl, qy _ _ b6 d6 ⟨c, hc, by omega, by omega⟩⟩
      obtain ⟨wa, hwa, ra⟩ := ra
      have hwa := Option.some.inj hwa
      subst hwa
      obtain ⟨wb, hwb, rb⟩ := rb
      have hwb := Option.some.inj hwb
      subst hwb
      obtain ⟨wc, hwc, rc⟩ := rc
      have hwc := Option.some.inj hwc
      subst hwc
      refine ⟨D2, _, rfl, .inl ⟨.inl (.inl hD2), fun u2 n2 => ⟨line2 _ _, fun u3 n3 => ?_⟩⟩⟩
      have q2 := same_new (o := .tup [.int a, .int b, .int c]) n2
      have q3 := same_new (o := .tup [.ref u1, .ref u2]) n3
      have bb := (b8.trans (But.same q2)).trans (But.same q3)
      have hl9 := bb _ _ hl7 nd
      have td : TS K H4 _ := (b51.trans bb).ts d3.1
      have e1 : SqT K _ u1 [.int x, .int y, .int z] := (bb.ts (K := K) d51.1) _ _ t1
      have e2 : SqT K _ u2 [.int a, .int b, .int c] := same_seqT (K := K) q3 (seqT_new (K := K) (H := H8) (p := u2) (xs := [.int a, .int b, .int c]))
      have e3 : Tp K _ (.ref u3) (boxD ((x, y, z), (a, b, c))) := Tp.ofBox (K := K) (seqT_new (K := K) (p := u3) (xs := [.ref u1, .ref u2])) e1 e2
      have d9 := (d8.same q2).same q3
      refine ⟨l, ys, _, rfl, rfl, hl9, line10k ?_, ?_⟩
      · have h1 := al3.len'
        omega
      · have tsl := TS.lst (K := K) (o := .lst (ys ++ [.ref u3])) hl9
        refine ⟨ys ++ [.ref u3], bs ++ [((x, y, z), (a, b, c))], _, _, rfl, ((b3.trans b51).trans bb).at nl, upd_same, ?_, ?_, ?_, fun b' hb' => ?_⟩
        · have d10 := d9.upd (o := .lst (ys ++ [.ref u3])) nd nsc
          rw [show n + 1 + 6 * (i + 1) = n + 1 + 6 * i + 3 + 3 by omega]
          exact d10
        · rw [List.map_append]
          exact ((al3.mono td).app (TpAll.one e3)).mono tsl
        · rw [List.length_append, hbl]
          rfl
        · rcases List.mem_append.mp hb' with h | h
          · exact hbs b' h
          · rw [List.mem_singleton.mp h]
            exact small_of rx ry rz ra rb rc
    · rintro σ H3 ⟨ys, bs, y4, y5, rfl, b3, hl3, d3, al3, hbl, hbs⟩
      exact ⟨_, rfl, q H3 l ys bs _ b3 d3 (by omega) nl hl3 al3 (by omega) hbs⟩
/-! ### a point moved by another one -/
theorem scLBy : FnScope ["_law_point", "_law_other", "_law_sign", "_law_one", "_law_two"] ["_law_point", "_law_other", "_law_sign"] (defScope sLBy) := ⟨rfl, rfl, rfl, by decide +kernel, rfl, by decide +kernel, by decide +kernel⟩
def byP (s : Int) (p r : P3) : P3 := (p.1 + s * r.1, p.2.1 + s * r.2.1, p.2.2 + s * r.2.2)
def spLBy (K : PySem.W.Frag) : Sp := fun vs H Q _ => ∃ (a b : Addr) (p r : P3) (sg : Int), vs = [.ref a, .ref b, .int sg] ∧ SqT K H a [.int p.1, .int p.2.1, .int p.2.2] ∧ SqT K H b [.int r.1, .int r.2.1, .int r.2.2] ∧ (sg = 1 ∨ sg = -1) ∧
  ∀ (H' : Hp) (u : Addr), Same H H' → H u = none → H' u = some (.tup [.int (byP sg p r).1, .int (byP sg p r).2.1, .int (byP sg p r).2.2]) → Q (.ref u) H'
theorem ok_LBy {f : Addr} {fd : FuncData} (F : Fun K "_law_by" "_law_by" sLBy f fd) (T : Txt K mg ax) : FnOk P w K mg base CX0 1 f fd ["_law_point", "_law_other", "_law_sign"] (spLBy K) := by
  refine F.ok scLBy (fun vs H Q E h => ?_) (fun cdv A outer s H vs Q E hr h => ?_)
  · obtain ⟨a, b, p, r, sg, rfl, _⟩ := h
    rfl
  · obtain ⟨a, b, p, r, sg, rfl, ha, hb, hsg, q⟩ := h
    refine ⟨_, pss_one (ps_ret (pe_callTy (call_tuple_ofK K) (by rfl) T.tuple (by decide +kernel) (pa_cons
      (pe_lc (own := [("_law_one", 3), ("_law_two", 4)]) (g := gTup K 2 (gCons (gName 3) (gCons (gName 4) gNil))) (tt := tYes) rfl scLBy.nd (RZ.pi_zipA (by rfl) T.zip (pa_cons (pv 0) (pa_cons (pv 1) pa_nil))) (blkOk_by (N := ["_law_point", "_law_other", "_law_sign", "_law_one", "_law_two"]) (sc := defScope sLBy) (by decide +kernel))
        (fun _ _ _ _ _ => pg_tup rfl (pgs_cons (pg_name (i := 3) scLBy.nd rfl (.inl rfl)) (pgs_cons (pg_name (i := 4) scLBy.nd rfl (.inl rfl)) pgs_nil))) (fun _ _ _ _ _ => pts_nil)
        (fun _ _ _ _ _ => pe_op op_add (pv 3) (pe_op op_mul (pv 2) (pv 4)))) pa_nil))), ?_⟩
    refine ⟨_, rfl, _, rfl, a, b, _, _, rfl, .inr ⟨ha, hb, fun D nD => ?_⟩⟩
    have sD : Same H (upd H D (.lst [])) := same_new nD
    refine lc_it (walk_zipT (K := K) (a := a) (b := b) (xs := [.int p.1, .int p.2.1, .int p.2.2]) (ys := [.int r.1, .int r.2.1, .int r.2.2]) (n := 3) rfl)
      (fun m H7 => Same H H7 ∧ H7 D = some (.lst (([(byP sg p r).1, (byP sg p r).2.1, (byP sg p r).2.2].take m).map V.int))) ⟨sD, upd_same⟩ (fun m H7 _ ⟨h, _⟩ => ⟨same_seqT h ha, same_seqT h hb⟩) ?_ ?_
    · rintro m x H7 H8 hm ⟨s7, hD⟩ ⟨T', x1, x2, rfl, nT, rfl, f1, f2⟩
      have sT := same_new (o := .tup [x1, x2]) nT
      obtain ⟨y1, y2, rfl, rfl, hy⟩ : ∃ y1 y2 : Int, x1 = .int y1 ∧ x2 = .int y2 ∧ [(byP sg p r).1, (byP sg p r).2.1, (byP sg p r).2.2][m]? = some (y1 + sg * y2) := by
        match m, hm with
        | 0, _ => exact ⟨p.1, r.1, (Option.some.inj f1).symm, (Option.some.inj f2).symm, rfl⟩
        | 1, _ => exact ⟨p.2.1, r.2.1, (Option.some.inj f1).symm, (Option.some.inj f2).symm, rfl⟩
        | 2, _ => exact ⟨p.2.2, r.2.2, (Option.some.inj f1).symm, (Option.some.inj f2).symm, rfl⟩
      refine ⟨T', _, rfl, seqT_new, rfl, _, [_], rfl, _, [], rfl, rfl, rfl, ?_⟩
      refine ⟨_, rfl, _, rfl, _, rfl, _, _, rfl, rfl, .inl ⟨by omega, by omega⟩, _, _, rfl, rfl, _, sT _ _ hD, small1000 (by rw [List.length_map, List.length_take]; show min m 3 ≤ _; omega), same_at (s7.trans sT) nD, ?_⟩
      rw [upd_same, List.take_add_one, hy, List.map_append]
      rfl
    · rintro H7 ⟨s7, hD⟩
      refine ⟨D, _, rfl, .inl ⟨.inl (.inl hD), fun u nu => ?_⟩⟩
      have su := same_new (o := .tup [.int (byP sg p r).1, .int (byP sg p r).2.1, .int (byP sg p r).2.2]) nu
      refine q _ u (s7.trans su) ?_ upd_same
      cases hh : H u with
      | none => rfl
      | some o => exact absurd (s7 _ _ hh) (by rw [nu]; exact fun z => nomatch z)
end
end K4
/-! C15_Cells: the law's dicts of unit cubes; whether a solid has just these. -/
namespace K4
open PySem PySem.Spec PyProof.Rows L2

def key3 (q : P3) : List Key := [.inl q.1, .inl q.2.1, .inl q.2.2]
def kvD (ks : List P3) : List (List Key × V) := ks.map fun q => (key3 q, .bl true)
theorem key3_inj {p q : P3} (h : key3 p = key3 q) : p = q := by
  obtain ⟨a, b, c⟩ := p
  obtain ⟨d, e, f⟩ := q
  have h : ([.inl a, .inl b, .inl c] : List Key) = [.inl d, .inl e, .inl f] := h
  injection h with h1 h2
  injection h2 with h2 h3
  injection h3 with h3 h4
  injection h1 with h1
  injection h2 with h2
  injection h3 with h3
  rw [h1, h2, h3]
theorem kvD_len (ks : List P3) : (kvD ks).length = ks.length := List.length_map _
theorem kvD_put (ks : List P3) (q : P3) : putK (kvD ks) (key3 q) (.bl true) = kvD (ins ks q) := by
  unfold putK ins
  by_cases h : q ∈ ks
  · have h1 : ((kvD ks).any fun kv => decide (kv.1 = key3 q)) = true := List.any_eq_true.mpr ⟨(key3 q, .bl true), List.mem_map.mpr ⟨q, h, rfl⟩, decide_eq_true rfl⟩
    rw [if_pos h1, if_pos h]
    unfold kvD
    rw [List.map_map]
    refine List.map_congr_left fun p _ => ?_
    show (if key3 p = key3 q then (key3 p, V.bl true) else (key3 p, V.bl true)) = _
    by_cases e : key3 p = key3 q
    · rw [if_pos e]
    · rw [if_neg e]
  · have h1 : ¬ ((kvD ks).any fun kv => decide (kv.1 = key3 q)) = true := by
      intro z
      obtain ⟨p, hp, e⟩ := List.any_eq_true.mp z
      obtain ⟨r, hr, e2⟩ := List.mem_map.mp hp
      subst e2
      exact h (key3_inj (of_decide_eq_true e) ▸ hr)
    rw [if_neg h1, if_neg h]
    unfold kvD
    rw [List.map_append]
    rfl
theorem kvD_val {ks : List P3} {q : P3} (h : q ∈ ks) : valV (kvD ks) (key3 q) = some (.bl true) := by
  unfold valV
  have : ∃ p, (kvD ks).find? (fun kv => decide (kv.1 = key3 q)) = some p := by
    cases hf : (kvD ks).find? (fun kv => decide (kv.1 = key3 q)) with
    | some p => exact ⟨p, rfl⟩
    | none => exact absurd (List.find?_eq_none.mp hf (key3 q, .bl true) (List.mem_map.mpr ⟨q, h, rfl⟩)) (by simp)
  obtain ⟨p, hp⟩ := this
  obtain ⟨r, hr, e⟩ := List.mem_map.mp (List.mem_of_find?_eq_some hp)
  subst e
  rw [hp]
  rfl
theorem kvD_none {ks : List P3} {q : P3} (h : q ∉ ks) : valV (kvD ks) (key3 q) = none := by
  unfold valV
  have : (kvD ks).find? (fun kv => decide (kv.1 = key3 q)) = none := List.find?_eq_none.mpr fun p hp => by
    obtain ⟨r, hr, e⟩ := List.mem_map.mp hp
    subst e
    show ¬ decide (key3 r = key3 q) = true
    intro z
    exact h (key3_inj (of_decide_eq_true z) ▸ hr)
  rw [this]
  rfl
/-- the law puts one point in -/
theorem kvD_dput {H : Hp} {a p : Addr} {ks : List P3} {q : P3} (ha : H a = some (.dT (kvD ks))) (hp : H p = some (.tup [.int q.1, .int q.2.1, .int q.2.2])) (hl : ks.length ≤ 10000) : DPut H a (.ref p) (.bl true) (upd H a (.dT (kvD (ins ks q)))) := by
  have h := DPut.t (k := key3 q) (v := .bl true) ha hp (line10k (by rw [kvD_len]; exact hl))
  rw [kvD_put] at h
  exact h
/-- points within a list of points, none twice -/
def Within (M ks : List P3) : Prop := ks.Nodup ∧ ∀ q ∈ ks, q ∈ M
theorem Within.len {M ks : List P3} (h : Within M ks) : ks.length ≤ M.length := nodup_len h.1 h.2
theorem Within.add {M ks l : List P3} (h : Within M ks) (hl : ∀ q ∈ l, q ∈ M) : Within M (insAll ks l) := ⟨nodup_insAll h.1, fun q hq => (mem_insAll.mp hq).elim (h.2 q) (hl q)⟩
theorem Within.nil (M : List P3) : Within M [] := ⟨List.nodup_nil, fun q h => nomatch h⟩
theorem insAll_one (ks : List P3) (q : P3) : insAll ks [q] = ins ks q := rfl
theorem rng_at {lo hi : Int} {m : Nat} (h : m < (hi - lo).toNat) : (rng lo hi)[m]? = some (lo + (m : Nat)) := by
  unfold rng
  rw [List.getElem?_map, List.getElem?_range h]
  rfl
theorem rng_take {A : Type} {g : Int → List A} {lo hi : Int} {m : Nat} (h : m < (hi - lo).toNat) : ((rng lo hi).take (m + 1)).flatMap g = ((rng lo hi).take m).flatMap g ++ g (lo + (m : Nat)) := by
  rw [List.take_add_one, rng_at h, List.flatMap_append]
  simp
theorem rng_all {A : Type} {g : Int → List A} {lo hi : Int} : ((rng lo hi).take (hi - lo).toNat).flatMap g = (rng lo hi).flatMap g := by
  rw [List.take_of_length_le (by rw [len_rng]; exact Nat.le_refl _)]
theorem cellsY_flat (b : Box) (x y : Int) : cellsY b x y = (rng b.1.2.2 b.2.2.2).flatMap fun z => [(x, y, z)] := by
  unfold cellsY
  induction rng b.1.2.2 b.2.2.2 with
  | nil => rfl
  | cons a r ih => rw [List.map_cons, List.flatMap_cons, ih]; rfl
theorem take_sub {A B : Type} {g : A → List B} {l : List A} {m : Nat} {q : B} (h : q ∈ (l.take m).flatMap g) : q ∈ l.flatMap g := by
  obtain ⟨a, ha, hq⟩ := List.mem_flatMap.mp h
  exact List.mem_flatMap.mpr ⟨a, List.mem_of_mem_take ha, hq⟩
theorem cells_take {bs : List Box} {i : Nat} {b : Box} (h : bs[i]? = some b) : cells (bs.take (i + 1)) = cells (bs.take i) ++ cellsOf b := by
  unfold cells
  rw [List.take_add_one, h, List.flatMap_append]
  simp
section
variable {P : Program} {w : World} {K : PySem.W.Frag} {mg : Str → Option Value} {base : Heap} {ax : Addr}
theorem scLCells : FnScope ["_law_boxes_here", "_law_found", "_law_low", "_law_high", "_law_x", "_law_y", "_law_z"] ["_law_boxes_here"] (defScope sLCells) := ⟨rfl, rfl, rfl, by decide +kernel, rfl, by decide +kernel, by decide +kernel⟩
def spLCells (K : PySem.W.Frag) : Sp := fun vs H Q _ => ∃ (l : Addr) (ys : List V) (bs : List Box), vs = [.ref l] ∧ SqL K H l ys ∧ TpAll K H ys (bs.map boxD) ∧ (∀ b ∈ bs, bdB b) ∧ (cellDict bs).length ≤ 10000 ∧
  ∀ (H' : Hp) (a : Addr), Same H H' → H a = none → H' a = some (.dT (kvD (cellDict bs))) → Q (.ref a) H'
theorem ok_LCells {f : Addr} {fd : FuncData} (F : Fun K "_law_cells" "_law_cells" sLCells f fd) (T : Txt K mg ax) : FnOk P w K mg base CX0 1 f fd ["_law_boxes_here"] (spLCells K) := by
  refine F.ok scLCells (fun vs H Q E h => ?_) (fun cdv A outer s H vs Q E hr h => ?_)
  · obtain ⟨l, ys, bs, rfl, _⟩ := h
    rfl
  · obtain ⟨l, ys, bs, rfl, hx, al, hbd, hlen, q⟩ := h
    have hu := hu_of hr
    refine ⟨_, pss_cons (ps_set (i := 1) scLCells.nd rfl (.inl rfl) pe_dnewT)
      (pss_cons (ps_for PassesOwn.never rfl (pi_list (pv 0)) (pg_tup rfl (pgs_cons (pg_name (i := 2) scLCells.nd rfl (.inl rfl)) (pgs_cons (pg_name (i := 3) scLCells.nd rfl (.inl rfl)) pgs_nil)))
        (pss_one (ps_for PassesOwn.never rfl (pi_range2 (by rfl) T.range (pa_cons (pe_ix ix_tup (pv 2) pe_int (fun _ _ => rfl)) (pa_cons (pe_ix ix_tup (pv 3) pe_int (fun _ _ => rfl)) pa_nil))) (pg_name (i := 4) scLCells.nd rfl (.inl rfl))
          (pss_one (ps_for PassesOwn.never rfl (pi_range2 (by rfl) T.range (pa_cons (pe_ix ix_tup (pv 2) pe_int (fun _ _ => rfl)) (pa_cons (pe_ix ix_tup (pv 3) pe_int (fun _ _ => rfl)) pa_nil))) (pg_name (i := 5) scLCells.nd rfl (.inl rfl))
            (pss_one (ps_for PassesOwn.never rfl (pi_range2 (by rfl) T.range (pa_cons (pe_ix ix_tup (pv 2) pe_int (fun _ _ => rfl)) (pa_cons (pe_ix ix_tup (pv 3) pe_int (fun _ _ => rfl)) pa_nil))) (pg_name (i := 6) scLCells.nd rfl (.inl rfl))
              (pss_one (ps_asg pe_bl (pg_sub (pv 1) (pe_tup (pa_cons (pv 4) (pa_cons (pv 5) (pa_cons (pv 6) pa_nil)))) (set_dict hu)))))))))))
      (pss_one (ps_ret (pv 1)))), ?_⟩
    intro a na
    have s1 : Same H (upd H a (.dT [])) := same_new na
    have hyl : ys.length = bs.length := al.len'
    refine ⟨_, rfl, l, rfl, ⟨_, s1.seq hx⟩, for_list (K := K) (a := l) (xs := ys) (fun i σ H3 => ∃ (y2 y3 y4 y5 y6 : Option V), σ = [some (.ref l), some (.ref a), y2, y3, y4, y5, y6] ∧ Same H H3 ∧ H3 a = some (.dT (kvD (insAll [] (cells (bs.take i))))))
      ⟨none, none, none, none, none, rfl, s1, upd_same⟩ (fun i σ H3 _ ⟨_, _, _, _, _, _, h, _⟩ => h.seq hx) ?_ ?_⟩
    · rintro i x σ H3 hi ⟨y2, y3, y4, y5, y6, rfl, s3, ha3⟩
      obtain ⟨b, hb, tb⟩ := al.of' hi
      obtain ⟨t, tl, tg, rfl, st, stl, stg⟩ := Tp.box tb
      obtain ⟨⟨⟨bx1, bx2⟩, ⟨by1, by2⟩, bz1, bz2⟩, ⟨cx1, cx2⟩, ⟨cy1, cy2⟩, cz1, cz2⟩ := hbd b (List.mem_of_getElem? hb)
      have inM : ∀ p ∈ cellsOf b, p ∈ cellDict bs := fun p hp => mem_cellDict.mpr ⟨b, List.mem_of_getElem? hb, mem_cellsOf.mp hp⟩
      have w0 : Within (cellDict bs) (insAll [] (cells (bs.take i))) := (Within.nil _).add fun p hp => by
        obtain ⟨c, hc, hpc⟩ := mem_cells.mp hp
        exact mem_cellDict.mpr ⟨c, List.mem_of_mem_take hc, hpc⟩
      generalize hK0 : insAll [] (cells (bs.take i)) = k0 at *
      refine ⟨t, _, rfl, same_seqT s3 st, rfl, _, [_], rfl, _, [], rfl, rfl, ?_⟩
      -- x
      refine ⟨_, rfl, tl, _, 0, _, rfl, rfl, same_seqT s3 stl, atI_nat (j := 0) rfl, _, rfl, tg, _, 0, _, rfl, rfl, same_seqT s3 stg, atI_nat (j := 0) rfl, _, _, rfl, ⟨by omega, by omega, by omega, by omega⟩, ?_⟩
      refine for_it (walk_range (lo := b.1.1) (n := (b.2.1 - b.1.1).toNat)) (fun m σ H5 => ∃ (y4 y5 y6 : Option V), σ = [some (.ref l), some (.ref a), some (.ref tl), some (.ref tg), y4, y5, y6] ∧ Same H H5 ∧ H5 a = some (.dT (kvD (insAll k0 (((rng b.1.1 b.2.1).take m).flatMap (cellsX b))))))
        ⟨_, _, _, rfl, s3, ha3⟩ (fun m σ H5 _ _ => trivial) ?_ ?_
      · rintro m x σ H5 H5' hm ⟨z4, z5, z6, rfl, s5, ha5⟩ ⟨rfl, hx4⟩
        have hx4 : x = V.int (b.1.1 + (m : Nat)) := hx4
        have w1 : Within (cellDict bs) (insAll k0 (((rng b.1.1 b.2.1).take m).flatMap (cellsX b))) := w0.add fun p hp => inM p (take_sub hp)
        have in1 : ∀ p ∈ cellsX b (b.1.1 + (m : Nat)), p ∈ cellDict bs := fun p hp => inM p (List.mem_flatMap.mpr ⟨_, List.mem_of_getElem? (rng_at hm), hp⟩)
        rw [rng_take hm, insAll_append]
        generalize hK1 : insAll k0 (((rng b.1.1 b.2.1).take m).flatMap (cellsX b)) = k1 at *
        generalize hx0 : b.1.1 + (m : Nat) = x0 at *
        subst hx4
        refine ⟨_, rfl, tl, _, 1, _, rfl, rfl, same_seqT s5 stl, atI_nat (j := 1) rfl, _, rfl, tg, _, 1, _, rfl, rfl, same_seqT s5 stg, atI_nat (j := 1) rfl, _, _, rfl, ⟨by omega, by omega, by omega, by omega⟩, ?_⟩
        refine for_it (walk_range (lo := b.1.2.1) (n := (b.2.2.1 - b.1.2.1).toNat)) (fun m σ H6 => ∃ (y5 y6 : Option V), σ = [some (.ref l), some (.ref a), some (.ref tl), some (.ref tg), some (.int x0), y5, y6] ∧ Same H H6 ∧ H6 a = some (.dT (kvD (insAll k1 (((rng b.1.2.1 b.2.2.1).take m).flatMap fun y => cellsY b x0 y)))))
          ⟨_, _, rfl, s5, ha5⟩ (fun m σ H6 _ _ => trivial) ?_ ?_
        · rintro m2 x σ H6 H6' hm2 ⟨z5, z6, rfl, s6, ha6⟩ ⟨rfl, hx5⟩
          have hx5 : x = V.int (b.1.2.1 + (m2 : Nat)) := hx5
          have w2 : Within (cellDict bs) (insAll k1 (((rng b.1.2.1 b.2.2.1).take m2).flatMap fun y => cellsY b x0 y)) := w1.add fun p hp => in1 p (take_sub hp)
          have in2 : ∀ p ∈ cellsY b x0 (b.1.2.1 + (m2 : Nat)), p ∈ cellDict bs := fun p hp => in1 p (List.mem_flatMap.mpr ⟨_, List.mem_of_getElem? (rng_at hm2), hp⟩)
          rw [rng_take hm2, insAll_append]
          generalize hK2 : insAll k1 (((rng b.1.2.1 b.2.2.1).take m2).flatMap fun y => cellsY b x0 y) = k2 at *
          generalize hy0 : b.1.2.1 + (m2 : Nat) = y0 at *
          subst hx5
          rw [cellsY_flat] at *
          refine ⟨_, rfl, tl, _, 2, _, rfl, rfl, same_seqT s6 stl, atI_nat (j := 2) rfl, _, rfl, tg, _, 2, _, rfl, rfl, same_seqT s6 stg, atI_nat (j := 2) rfl, _, _, rfl, ⟨by omega, by omega, by omega, by omega⟩, ?_⟩
          refine for_it (walk_range (lo := b.1.2.2) (n := (b.2.2.2 - b.1.2.2).toNat)) (fun m σ H7 => ∃ (y6 : Option V), σ = [some (.ref l), some (.ref a), some (.ref tl), some (.ref tg), some (.int x0), some (.int y0), y6] ∧ Same H H7 ∧ H7 a = some (.dT (kvD (insAll k2 (((rng b.1.2.2 b.2.2.2).take m).flatMap fun z => [(x0, y0, z)])))))
            ⟨_, rfl, s6, ha6⟩ (fun m σ H7 _ _ => trivial) ?_ ?_
          · rintro m3 x σ H7 H7' hm3 ⟨z6, rfl, s7, ha7⟩ ⟨rfl, hx6⟩
            have hx6 : x = V.int (b.1.2.2 + (m3 : Nat)) := hx6
            have w3 : Within (cellDict bs) (insAll k2 (((rng b.1.2.2 b.2.2.2).take m3).flatMap fun z => [(x0, y0, z)])) := w2.add fun p hp => in2 p (take_sub hp)
            rw [rng_take hm3, insAll_append, insAll_one]
            generalize hK3 : insAll k2 (((rng b.1.2.2 b.2.2.2).take m3).flatMap fun z => [(x0, y0, z)]) = k3 at *
            generalize hz0 : b.1.2.2 + (m3 : Nat) = z0 at *
            subst hx6
            have h3 := w3.len
            refine ⟨_, rfl, _, rfl, _, rfl, _, rfl, line3 _ _ _, fun p np => ?_⟩
            have sp := same_new (o := .tup [.int x0, .int y0, .int z0]) np
            refine ⟨a, _, rfl, kvD_dput (q := (x0, y0, z0)) (sp _ _ ha7) upd_same (by omega), ?_⟩
            exact ⟨_, rfl, same_at (s7.trans sp) na, upd_same⟩
          · rintro σ H7 ⟨z6, rfl, s7, ha7⟩
            rw [rng_all] at ha7
            exact ⟨_, _, rfl, s7, ha7⟩
        · rintro σ H6 ⟨z5, z6, rfl, s6, ha6⟩
          rw [rng_all] at ha6
          exact ⟨_, _, _, rfl, s6, ha6⟩
      · rintro σ H5 ⟨z4, z5, z6, rfl, s5, ha5⟩
        rw [rng_all] at ha5
        refine ⟨_, _, _, _, _, rfl, s5, ?_⟩
        rw [cells_take hb, insAll_append, hK0]
        exact ha5
    · rintro σ H3 ⟨y2, y3, y4, y5, y6, rfl, s3, ha3⟩
      rw [hyl, List.take_length] at ha3
      exact ⟨_, rfl, q H3 a s3 na ha3⟩
end
end K4
/-! C16_LIs: whether a solid has just some unit cubes. -/
namespace K4
open PySem PySem.Spec PyProof.Rows L2

/-- the defs that look at a solid -/
structure SDefs (K : PySem.W.Frag) (mg : Str → Option Value) (fS fC fB fV : Addr) (dS dC dB dV : FuncData) : Prop where
  FS : Fun K "is_solid" "is_solid" sIsSolid fS dS
  bS : Binds K dS ["thing"] []
  gS : mg "is_solid" = some (.ref fS)
  FC : Fun K "_law_cells" "_law_cells" sLCells fC dC
  bC : Binds K dC ["_law_boxes_here"] []
  gC : mg "_law_cells" = some (.ref fC)
  FB : Fun K "boxes_of" "boxes_of" sBoxesOf fB dB
  bB : Binds K dB ["solid"] []
  gB : mg "boxes_of" = some (.ref fB)
  FV : Fun K "volume" "volume" sVolume fV dV
  bV : Binds K dV ["solid"] []
  gV : mg "volume" = some (.ref fV)
section
variable {P : Program} {w : World} {K : PySem.W.Frag} {mg : Str → Option Value} {base : Heap} {ax : Addr}
variable {fN fR fA fL : Addr} {dN dR dA dL : FuncData} {fS fC fB fV : Addr} {dS dC dB dV : FuncData}
theorem scLIs : FnScope ["_law_solid_here", "_law_cells_here", "_law_found"] ["_law_solid_here", "_law_cells_here"] (defScope sLIs) := ⟨rfl, rfl, rfl, by decide +kernel, rfl, by decide +kernel, by decide +kernel⟩
def spLIs (K : PySem.W.Frag) : Sp := fun vs H Q _ => ∃ (v : V) (a : Addr) (s : Sol) (ks : List P3), vs = [v, .ref a] ∧ Tp K H v (solD s) ∧ SolOk s ∧ H a = some (.dT (kvD ks)) ∧ ks.Nodup ∧ ks.length ≤ 10000 ∧ (∀ q, q ∈ ks ↔ pm s q) ∧ ∀ H', Same H H' → Q (.bl true) H'
theorem ok_LIs {f : Addr} {fd : FuncData} (F : Fun K "_law_is" "_law_is" sLIs f fd) (S : SDefs K mg fS fC fB fV dS dC dB dV) (I : IDefs K mg fN fR fA fL dN dR dA dL) (T : Txt K mg ax) : FnOk P w K mg base CX0 7 f fd ["_law_solid_here", "_law_cells_here"] (spLIs K) := by
  have GS : FnOk P w K mg base CX0 6 fS dS ["thing"] (spIsSolid K) := ok_isSolid S.FS I T
  have GC : FnOk P w K mg base CX0 1 fC dC ["_law_boxes_here"] (spLCells K) := ok_LCells S.FC T
  have GB : FnOk P w K mg base CX0 1 fB dB ["solid"] (spBoxesOf K) := ok_boxesOf S.FB T
  have GV : FnOk P w K mg base CX0 2 fV dV ["solid"] (spVolume K) := ok_volume S.FV S.FB S.bB S.gB T
  refine F.ok scLIs (fun vs H Q E h => ?_) (fun cdv A outer s H vs Q E hr h => ?_)
  · obtain ⟨v, a, s, ks, rfl, _⟩ := h
    rfl
  · obtain ⟨v, a, S', ks, rfl, tv, ok, ha, hnd, hlen, hm, q⟩ := h
    have hu := hu_of hr
    have hr6 : Room 6 _ := hr.mono (by decide)
    have hr2 : Room 2 _ := hr.mono (by decide)
    have hr1 : Room 1 _ := hr.mono (by decide)
    refine ⟨_, pss_cons (ps_if (pt_not (pt_val (pe_call GS hr6 (by rfl) S.gS S.FS.kp S.bS .nil pass0 (pa_cons (pv 0) pa_nil)))) (pss_one (ps_ret pe_bl)) pss_nil)
      (pss_cons (ps_set (i := 2) scLIs.nd rfl (.inl rfl) (pe_call GC hr1 (by rfl) S.gC S.FC.kp S.bC .nil pass0 (pa_cons (pe_call GB hr1 (by rfl) S.gB S.FB.kp S.bB .nil pass0 (pa_cons (pv 0) pa_nil)) pa_nil)))
      (pss_one (ps_ret (pe_and (pe_cmpR (op_eq_dictT hu) (pv 2) (pv 1) (nomark _)) (pe_one (pe_cmpR op_eq (pe_callB call_len_dT (by rfl) T.len PySem.boot_len (pa_cons (pv 2) pa_nil)) (pe_call GV hr2 (by rfl) S.gV S.FV.kp S.bV .nil pass0 (pa_cons (pv 0) pa_nil)) (nomark _))))))), ?_⟩
    refine ⟨_, rfl, v, S', rfl, tv, ok, fun H1 s1 => ⟨true, rfl, iteF ?_⟩⟩
    refine ⟨_, rfl, v, S', rfl, tv.mono (TS.same s1), ok, fun H2 l ys s2 nl hl al => ?_⟩
    have hnk : ∀ p, p ∈ cellDict (boxes S') ↔ p ∈ ks := fun p => by rw [mem_cellDict, hm p, pm_boxes ok p]
    have hlk : (cellDict (boxes S')).length = ks.length := same_len (nodup_cellDict _) hnd hnk
    refine ⟨l, ys, boxes S', rfl, .inl (.inl hl), al, fun b hb => (box_ok ok hb).2, by omega, fun H3 c s3 nc hc => ?_⟩
    have s13 := (s1.trans s2).trans s3
    refine ⟨_, rfl, _, rfl, c, a, _, _, rfl, rfl, hc, s13 _ _ ha, by rw [kvD_len, kvD_len]; exact hlk, fun p hp => ?_, ?_⟩
    · obtain ⟨r, hr', e⟩ := List.mem_map.mp hp
      subst e
      exact ⟨kvD_val ((hnk r).mp hr'), rfl⟩
    · refine ⟨true, rfl, iteT ⟨_, rfl, c, _, rfl, hc, _, rfl, v, S', rfl, tv.mono (TS.same s13), ok, fun H4 s4 => ?_⟩⟩
      refine ⟨rfl, ?_⟩
      rw [kvD_len, cellDict_len ok, decide_eq_true rfl]
      exact q H4 (s13.trans s4)
end
end K4
/-! C17_Plain: what the law's dicts hold, in plain words; a walk over the keys of a dict that was just made. -/
namespace K4
open PySem PySem.Spec PyProof.Rows L2

/-! ### for k in a dict with tuple keys that is never written again -/
def iKeysL (td : TE) : TI := fun σ H R => td σ H fun x H1 => ∃ (d : Addr) (kvs : List (List Key × V)), x = .ref d ∧ H1 d = some (.dT kvs) ∧ ∀ o, R (Itkt d o kvs) (upd H1 d (.frz o (.dT kvs)))
theorem pi_keysL {X : Cx} {tg e : Expr} {td : TE} (he : PE X e td) : PI X tg e (iKeysL td) := by
  refine ⟨fun pins s σ H R I h => ?_⟩
  refine thn (he.run pins s σ H _ I h) fun u s1 ⟨x, H1, I1, rx, d, kvs, ex, hd, q⟩ => ?_
  subst ex
  obtain rfl : u = Value.ref d := rx
  obtain ⟨o, I2⟩ := I1.lock hd trivial
  obtain ⟨hs, hgd, hx, es, ep, hdt, hsz, ent⟩ := I2.frzT upd_same
  refine iter_keys hs hgd hx hdt (pi_one (tk := s1.toks) I2 _ (turn_keysT _ hdt) ⟨_, Heap.get?_push_size _ rfl, rfl, ?_⟩ (q o))
  rw [hsz] <;> rfl

/-! ### drawn boxes -/
/-- drawn boxes and their solid -/
structure DB (k : Int) (bs : List Box) : Prop where
  two : bs.length ≤ 2
  each : ∀ b ∈ bs, small b ∧ rngB (-1) k b
section
variable {k : Int} {bs : List Box}
theorem DB.len (h : DB k bs) : (cellDict bs).length ≤ 54 := by
  have h1 := cellDict_le (bs := bs) fun b hb => (h.each b hb).1
  have h2 := h.two
  omega
theorem DB.bd (h : DB k bs) (hk : k ≤ 10) : ∀ b ∈ bs, bdB b := fun b hb => by
  obtain ⟨⟨⟨w1, w2, w3⟩, _⟩, ⟨a1, a2⟩, ⟨b1, b2⟩, c1, c2⟩ := h.each b hb
  unfold bdB Bd
  refine ⟨⟨⟨?_, ?_⟩, ⟨?_, ?_⟩, ?_, ?_⟩, ⟨?_, ?_⟩, ⟨?_, ?_⟩, ?_, ?_⟩ <;> omega
theorem DB.mem (h : DB k bs) {q : P3} (hq : q ∈ cellDict bs) : (-1 ≤ q.1 ∧ q.1 < k) ∧ (-1 ≤ q.2.1 ∧ q.2.1 < k) ∧ (-1 ≤ q.2.2 ∧ q.2.2 < k) := by
  obtain ⟨b, hb, ⟨x1, x2⟩, ⟨y1, y2⟩, z1, z2⟩ := mem_cellDict.mp hq
  obtain ⟨_, ⟨a1, a2⟩, ⟨b1, b2⟩, c1, c2⟩ := h.each b hb
  refine ⟨⟨?_, ?_⟩, ⟨?_, ?_⟩, ?_, ?_⟩ <;> omega
variable {s : Sol}
theorem sol_mem (hs : SolOf bs s) (q : P3) : pm s q ↔ q ∈ cellDict bs := by rw [mem_cellDict]; exact hs.2 q
theorem DB.cnt (h : DB k bs) (hs : SolOf bs s) : (boxes s).length ≤ 54 := Nat.le_trans (boxes_count hs.1 hs.2) h.len
theorem DB.rng (h : DB k bs) (hs : SolOf bs s) : ∀ c ∈ boxes s, wide c ∧ rngB (-1) k c := fun c hc => ⟨(box_ok hs.1 hc).1, boxes_rng hs.1 hs.2 (fun b hb => (h.each b hb).2) c hc⟩
end
theorem bd_sweep {j k : Int} {b t : Box} (hj : j ≤ 5) (hk : k ≤ 5) (hb : wide b ∧ rngB (-1) j b) (ht : wide t ∧ rngB (-1) k t) : bdB (sweepB b t) := by
  obtain ⟨⟨w1, w2, w3⟩, ⟨a1, a2⟩, ⟨b1, b2⟩, c1, c2⟩ := hb
  obtain ⟨⟨v1, v2, v3⟩, ⟨d1, d2⟩, ⟨e1, e2⟩, f1, f2⟩ := ht
  unfold bdB Bd sweepB
  refine ⟨⟨⟨?_, ?_⟩, ⟨?_, ?_⟩, ?_, ?_⟩, ⟨?_, ?_⟩, ⟨?_, ?_⟩, ?_, ?_⟩ <;> dsimp only <;> omega
theorem bd_bar {j k : Int} {b t : Box} (hj : j ≤ 5) (hk : k ≤ 5) (hb : wide b ∧ rngB (-1) j b) (ht : wide t ∧ rngB (-1) k t) : bdB (barB b t) := by
  obtain ⟨⟨w1, w2, w3⟩, ⟨a1, a2⟩, ⟨b1, b2⟩, c1, c2⟩ := hb
  obtain ⟨⟨v1, v2, v3⟩, ⟨d1, d2⟩, ⟨e1, e2⟩, f1, f2⟩ := ht
  unfold bdB Bd barB
  refine ⟨⟨⟨?_, ?_⟩, ⟨?_, ?_⟩, ?_, ?_⟩, ⟨?_, ?_⟩, ⟨?_, ?_⟩, ?_, ?_⟩ <;> dsimp only <;> omega
theorem bd_pairs {g : Box → Box → Box} {j k : Int} {s t : Sol} {bs ts : List Box} (hg : ∀ b c, (wide b ∧ rngB (-1) j b) → (wide c ∧ rngB (-1) k c) → bdB (g b c)) (h1 : DB j bs) (h2 : DB k ts) (hs : SolOf bs s) (ht : SolOf ts t) :
    (boxes s).length * (boxes t).length ≤ 10000 ∧ ∀ c ∈ pairs g (boxes s) (boxes t), bdB c := by
  refine ⟨Nat.le_trans (Nat.mul_le_mul (h1.cnt hs) (h2.cnt ht)) (by decide), fun c hc => ?_⟩
  obtain ⟨b, hb, d, hd, rfl⟩ := mem_pairs.mp hc
  exact hg b d (h1.rng hs b hb) (h2.rng ht d hd)
theorem bd_grow {k : Int} {b : Box} (hk : k ≤ 5) (hb : wide b ∧ rngB (-1) k b) (a : Nat) : bdB (grow b a) := by
  obtain ⟨⟨w1, w2, w3⟩, ⟨a1, a2⟩, ⟨b1, b2⟩, c1, c2⟩ := hb
  unfold bdB Bd grow
  refine ⟨⟨⟨?_, ?_⟩, ⟨?_, ?_⟩, ?_, ?_⟩, ⟨?_, ?_⟩, ⟨?_, ?_⟩, ?_, ?_⟩ <;> dsimp only <;> split <;> omega
theorem bd_nb {k : Int} {s : Sol} {bs : List Box} (hk : k ≤ 5) (h : DB k bs) (hs : SolOf bs s) : ∀ c ∈ nbBoxes (boxes s), bdB c := fun c hc => by
  rcases List.mem_append.mp hc with hc | hc
  · exact (box_ok hs.1 hc).2
  · obtain ⟨b, hb, hg⟩ := List.mem_flatMap.mp hc
    have hw := h.rng hs b hb
    have hg : c ∈ [grow b 0, grow b 1, grow b 2] := hg
    rcases List.mem_cons.mp hg with e | hg
    · rw [e]; exact bd_grow hk hw 0
    rcases List.mem_cons.mp hg with e | hg
    · rw [e]; exact bd_grow hk hw 1
    · rw [List.mem_singleton.mp hg]; exact bd_grow hk hw 2

/-! ### what is due -/
def dueAll (sg : Int) (ps cs : List P3) : List P3 := ps.flatMap fun p => cs.map (byP sg p)
def dueK (sg : Int) (ps cs : List P3) : List P3 := insAll [] (dueAll sg ps cs)
theorem mem_dueAll {sg : Int} {ps cs : List P3} {q : P3} : q ∈ dueAll sg ps cs ↔ ∃ p ∈ ps, ∃ r ∈ cs, q = byP sg p r := by
  unfold dueAll
  constructor
  · intro h
    obtain ⟨p, hp, h⟩ := List.mem_flatMap.mp h
    obtain ⟨r, hr, e⟩ := List.mem_map.mp h
    exact ⟨p, hp, r, hr, e.symm⟩
  · rintro ⟨p, hp, r, hr, rfl⟩
    exact List.mem_flatMap.mpr ⟨p, hp, List.mem_map.mpr ⟨r, hr, rfl⟩⟩
theorem mem_dueK {sg : Int} {ps cs : List P3} {q : P3} : q ∈ dueK sg ps cs ↔ ∃ p ∈ ps, ∃ r ∈ cs, q = byP sg p r := by
  unfold dueK
  rw [mem_insAll, mem_dueAll]
  exact ⟨fun h => h.elim (fun z => nomatch z) id, .inr⟩
theorem nodup_dueK (sg : Int) (ps cs : List P3) : (dueK sg ps cs).Nodup := nodup_insAll List.nodup_nil
theorem dueAll_len (sg : Int) (ps cs : List P3) : (dueAll sg ps cs).length = ps.length * cs.length := len_flat fun p _ => List.length_map _
theorem by_add (p r : P3) : byP 1 p r = addP p r := by
  unfold byP addP
  rw [Int.one_mul, Int.one_mul, Int.one_mul]
theorem by_sub (p r : P3) : byP (-1) p r = subP p r := by
  unfold byP subP
  rw [Int.neg_one_mul, Int.neg_one_mul, Int.neg_one_mul]
  rfl
theorem due_swept {bl bt : List Box} {L T u : Sol} (hL : SolOf bl L) (hT : SolOf bt T) (hu : SolOf (pairs sweepB (boxes L) (boxes T)) u) (q : P3) : q ∈ dueK 1 (cellDict bl) (cellDict bt) ↔ pm u q := by
  rw [hu.2 q, swept_iff hL.1 hT.1 q, mem_dueK]
  constructor
  · rintro ⟨p, hp, r, hr, rfl⟩
    exact ⟨p, r, (sol_mem hL p).mpr hp, (sol_mem hT r).mpr hr, by_add p r⟩
  · rintro ⟨p, r, hp, hr, rfl⟩
    exact ⟨p, (sol_mem hL p).mp hp, r, (sol_mem hT r).mp hr, (by_add p r).symm⟩
theorem due_barred {bs bt : List Box} {S T u : Sol} (hS : SolOf bs S) (hT : SolOf bt T) (hu : SolOf (pairs barB (boxes S) (boxes T)) u) (q : P3) : q ∈ dueK (-1) (cellDict bs) (cellDict bt) ↔ pm u q := by
  rw [hu.2 q, barred_iff hS.1 hT.1 q, mem_dueK]
  constructor
  · rintro ⟨p, hp, r, hr, rfl⟩
    exact ⟨p, r, (sol_mem hS p).mpr hp, (sol_mem hT r).mpr hr, by_sub p r⟩
  · rintro ⟨p, r, hp, hr, rfl⟩
    exact ⟨p, (sol_mem hS p).mp hp, r, (sol_mem hT r).mp hr, (by_sub p r).symm⟩
/-- moved to a place, the tool meets the stuff just where it is due -/
theorem due_meet {bs bt : List Box} {S T : Sol} (hS : SolOf bs S) (hT : SolOf bt T) (k : P3) : k ∈ dueK (-1) (cellDict bs) (cellDict bt) ↔ ∃ q, pm (movS k.2.2 k.2.1 k.1 T) q ∧ pm S q := by
  rw [mem_dueK]
  constructor
  · rintro ⟨p, hp, r, hr, e⟩
    rw [by_sub] at e
    refine ⟨p, (pm_mov T p k).mpr ?_, (sol_mem hS p).mpr hp⟩
    have e2 : subP p k = r := by
      rw [e]
      unfold subP
      show (p.1 - (p.1 - r.1), p.2.1 - (p.2.1 - r.2.1), p.2.2 - (p.2.2 - r.2.2)) = r
      rw [show p.1 - (p.1 - r.1) = r.1 by omega, show p.2.1 - (p.2.1 - r.2.1) = r.2.1 by omega, show p.2.2 - (p.2.2 - r.2.2) = r.2.2 by omega]
    rw [e2]
    exact (sol_mem hT r).mpr hr
  · rintro ⟨q, h1, h2⟩
    refine ⟨q, (sol_mem hS q).mp h2, subP q k, (sol_mem hT _).mp ((pm_mov T q k).mp h1), ?_⟩
    rw [by_sub]
    unfold subP
    show k = (q.1 - (q.1 - k.1), q.2.1 - (q.2.1 - k.2.1), q.2.2 - (q.2.2 - k.2.2))
    rw [show q.1 - (q.1 - k.1) = k.1 by omega, show q.2.1 - (q.2.1 - k.2.1) = k.2.1 by omega, show q.2.2 - (q.2.2 - k.2.2) = k.2.2 by omega]
/-! ### the neighbours -/
def nearK (ks : List P3) : List P3 := insAll ks (ks.flatMap stepsP)
theorem nodup_nearK {ks : List P3} (h : ks.Nodup) : (nearK ks).Nodup := nodup_insAll h
theorem nearK_len (ks : List P3) : (ks ++ ks.flatMap stepsP).length = ks.length * 7 := by
  rw [List.length_append, len_flat (n := 6) fun p _ => rfl]
  omega
theorem due_near {bl : List Box} {L u : Sol} (hL : SolOf bl L) (hu : SolOf (nbBoxes (boxes L)) u) (q : P3) : q ∈ nearK (cellDict bl) ↔ pm u q := by
  rw [hu.2 q, nb_iff hL.1 q]
  unfold nearK
  rw [mem_insAll]
  constructor
  · rintro (h | h)
    · exact ⟨q, (sol_mem hL q).mpr h, .inl rfl⟩
    · obtain ⟨p, hp, h⟩ := List.mem_flatMap.mp h
      exact ⟨p, (sol_mem hL p).mpr hp, .inr h⟩
  · rintro ⟨p, hp, rfl | h⟩
    · exact .inl ((sol_mem hL _).mp hp)
    · exact .inr (List.mem_flatMap.mpr ⟨p, (sol_mem hL p).mp hp, h⟩)
/-! ### the hashes of the lot's points -/
def pts216 : List P3 := six.flatMap fun x => six.flatMap fun y => six.map fun z => (x, y, z)
def hashP (q : P3) : Int := hash3 q.1 q.2.1 q.2.2
theorem map_cube {g : Int → Int → Int → Int} {f : P3 → Int} (hf : ∀ x y z, f (x, y, z) = g x y z) (l m n : List Int) : (l.flatMap fun x => m.flatMap fun y => n.map fun z => (x, y, z)).map f = l.flatMap fun x => m.flatMap fun y => n.map fun z => g x y z := by
  rw [List.map_flatMap]
  refine congrArg (fun g => l.flatMap g) (funext fun x => ?_)
  rw [List.map_flatMap]
  refine congrArg (fun g => m.flatMap g) (funext fun y => ?_)
  rw [List.map_map]
  exact List.map_congr_left fun z _ => hf x y z
theorem pts_hashes : pts216.map hashP = hashes216 := map_cube (fun _ _ _ => rfl) six six six
theorem inj_of_nodup {A B : Type} {g : A → B} : ∀ {l : List A}, (l.map g).Nodup → ∀ {a b : A}, a ∈ l → b ∈ l → g a = g b → a = b
  | [], _, _, _, h, _, _ => nomatch h
  | c :: r, hn, a, b, ha, hb, e => by
    rw [List.map_cons] at hn
    obtain ⟨h1, h2⟩ := List.nodup_cons.mp hn
    rcases List.mem_cons.mp ha with ea | ha
    · rcases List.mem_cons.mp hb with eb | hb
      · rw [ea, eb]
      · exact absurd (List.mem_map.mpr ⟨b, hb, by rw [← e, ea]⟩) h1
    · rcases List.mem_cons.mp hb with eb | hb
      · exact absurd (List.mem_map.mpr ⟨a, ha, by rw [e, eb]⟩) h1
      · exact inj_of_nodup h2 ha hb e
theorem six_of {x : Int} (h : -1 ≤ x ∧ x < 5) : x ∈ six := by
  have : x = -1 ∨ x = 0 ∨ x = 1 ∨ x = 2 ∨ x = 3 ∨ x = 4 := by omega
  rcases this with e | e | e | e | e | e <;> subst e <;> decide
theorem pts_of {q : P3} (h : (-1 ≤ q.1 ∧ q.1 < 5) ∧ (-1 ≤ q.2.1 ∧ q.2.1 < 5) ∧ (-1 ≤ q.2.2 ∧ q.2.2 < 5)) : q ∈ pts216 :=
  List.mem_flatMap.mpr ⟨q.1, six_of h.1, List.mem_flatMap.mpr ⟨q.2.1, six_of h.2.1, List.mem_map.mpr ⟨q.2.2, six_of h.2.2, rfl⟩⟩⟩
theorem hash_key (P : Program) (w : World) (q : P3) : tupleKeyHash (mixKind P w) (key3 q) = hashP q := hash_key3 P w q.1 q.2.1 q.2.2
theorem nodup216 : (pts216.map hashP).Nodup := by
  rw [pts_hashes]
  exact distinct_nodup hashes_distinct
theorem nodup_by {A B C : Type} {f : A → B} {h : A → C} {l : List A} {m : List A} (hm : (m.map h).Nodup) (hl : l.Nodup) (hs : ∀ a ∈ l, a ∈ m) (hf : ∀ a b, f a = f b → h a = h b) : (l.map f).Nodup := by
  unfold List.Nodup at hl ⊢
  rw [List.pairwise_map]
  exact List.Pairwise.imp_of_mem (fun {a b} ha hb hab z => hab (inj_of_nodup hm (hs a ha) (hs b hb) (hf a b z))) hl
theorem hash_same (P : Program) (w : World) (a b : P3) (z : tupleKeyHash (mixKind P w) (key3 a) = tupleKeyHash (mixKind P w) (key3 b)) : hashP a = hashP b := by
  rw [hash_key, hash_key] at z
  exact z
theorem kvD_map {B : Type} (f : List Key → B) : ∀ ks : List P3, ((kvD ks).map fun p => f p.1) = ks.map fun q => f (key3 q)
  | [] => rfl
  | q :: r => by
    have ih := kvD_map f r
    show f (key3 q) :: _ = f (key3 q) :: _
    exact congrArg (f (key3 q) :: ·) ih
theorem hash_apart {P : Program} {w : World} {ks : List P3} (hn : ks.Nodup) (hb : ∀ q ∈ ks, (-1 ≤ q.1 ∧ q.1 < 5) ∧ (-1 ≤ q.2.1 ∧ q.2.1 < 5) ∧ (-1 ≤ q.2.2 ∧ q.2.2 < 5)) :
    ((kvD ks).map fun p => tupleKeyHash (mixKind P w) p.1).Nodup := by
  rw [kvD_map (tupleKeyHash (mixKind P w)) ks]
  exact nodup_by (f := fun q => tupleKeyHash (mixKind P w) (key3 q)) (h := hashP) (m := pts216) nodup216 hn (fun a ha => pts_of (hb a ha)) (hash_same P w)
end K4
/-! C18_Law: the law itself (printed by gen18.py). -/
namespace K4
open PySem PySem.Spec PyProof.Rows L2

/-- the defs that the law calls -/
structure LDefs (K : PySem.W.Frag) (mg : Str → Option Value) (f1 f2 f3 f4 f5 f6 f7 f8 f9 fM : Addr) (d1 d2 d3 d4 d5 d6 d7 d8 d9 dM : FuncData) : Prop where
  F1 : Fun K "_law_boxes" "_law_boxes" sLBoxes f1 d1
  b1 : Binds K d1 ["_law_draw_here", "_law_many", "_law_wide"] []
  g1 : mg "_law_boxes" = some (.ref f1)
  F2 : Fun K "_law_solid" "_law_solid" sLSolid f2 d2
  b2 : Binds K d2 ["_law_boxes_here"] []
  g2 : mg "_law_solid" = some (.ref f2)
  F3 : Fun K "_law_is" "_law_is" sLIs f3 d3
  b3 : Binds K d3 ["_law_solid_here", "_law_cells_here"] []
  g3 : mg "_law_is" = some (.ref f3)
  F4 : Fun K "_law_by" "_law_by" sLBy f4 d4
  b4 : Binds K d4 ["_law_point", "_law_other", "_law_sign"] []
  g4 : mg "_law_by" = some (.ref f4)
  F5 : Fun K "swept" "swept" sSwept f5 d5
  b5 : Binds K d5 ["lot", "tool"] []
  g5 : mg "swept" = some (.ref f5)
  F6 : Fun K "barred" "barred" sBarred f6 d6
  b6 : Binds K d6 ["tool", "solid"] []
  g6 : mg "barred" = some (.ref f6)
  F7 : Fun K "neighbours" "neighbours" sNeigh f7 d7
  b7 : Binds K d7 ["lot"] []
  g7 : mg "neighbours" = some (.ref f7)
  F8 : Fun K "moved" "moved" sMoved f8 d8
  b8 : Binds K d8 ["solid", "by"] []
  g8 : mg "moved" = some (.ref f8)
  F9 : Fun K "do_meet" "do_meet" sDoMeet f9 d9
  b9 : Binds K d9 ["one", "other"] []
  g9 : mg "do_meet" = some (.ref f9)
  FM : Fun K "meet" "meet" sMeet fM dM
  bM : Binds K dM ["one", "other"] []
  gM : mg "meet" = some (.ref fM)
theorem unlock_same {a : Addr} {H H1 : Hp} {u : HO} (h : But a H H1) (ha : H a = some u) : Same H (upd H1 a u) := fun b o e => by
  by_cases hb : b = a
  · rw [hb, upd_same]
    rw [hb, ha] at e
    exact e
  · rw [upd_ne hb]
    exact h _ _ e hb
theorem hu2_of {A : Around} {k : Nat} (hr : Room k A) : A.units + 2 < cLine := Nat.lt_of_le_of_lt (Nat.add_le_add_left (by decide : 2 ≤ 64) _) hr.units
theorem kvD_at {ks : List P3} {i : Nat} {k : List Key} {v : V} (h : (kvD ks)[i]? = some (k, v)) : ∃ p, ks[i]? = some p ∧ k = key3 p := by
  unfold kvD at h
  rw [List.getElem?_map] at h
  obtain ⟨p, hp, e⟩ := Option.map_eq_some_iff.mp h
  exact ⟨p, hp, (Prod.mk.inj e).1.symm⟩
theorem flat_take1 {A B : Type} {g : A → List B} {l : List A} {i : Nat} {p : A} (h : l[i]? = some p) : (l.take (i + 1)).flatMap g = (l.take i).flatMap g ++ g p := by
  rw [List.take_add_one, h, List.flatMap_append]
  simp
theorem dueAll_take {sg : Int} {ps cs : List P3} {i : Nat} {p : P3} (h : ps[i]? = some p) : dueAll sg (ps.take (i + 1)) cs = dueAll sg (ps.take i) cs ++ cs.map (byP sg p) := flat_take1 h
theorem steps_take {p : P3} {j : Nat} (h : j < 3) : (stepsP p).take (2 * (j + 1)) = (stepsP p).take (2 * j) ++ [stepP p j (-1), stepP p j 1] := by
  match j, h with
  | 0, _ => rfl
  | 1, _ => rfl
  | 2, _ => rfl
theorem sign_in {p q : P3} {j : Nat} (hj : j < 3) (h : q ∈ [stepP p j (-1), stepP p j 1]) : q ∈ stepsP p := by
  have e := steps_take (p := p) hj
  have h2 : q ∈ (stepsP p).take (2 * (j + 1)) := by
    rw [e]
    exact List.mem_append_right _ h
  exact List.mem_of_mem_take h2
theorem sign_at {p : P3} {j m : Nat} {x : V} (hm : [V.int (-1), .int 1][m]? = some x) (hj : j < 3) : ∃ sg : Int, x = .int sg ∧ [stepP p j (-1), stepP p j 1][m]? = some (stepP p j sg) ∧ stepP p j sg ∈ stepsP p := by
  match m, hm with
  | 0, hm => exact ⟨-1, (Option.some.inj hm).symm, rfl, sign_in hj (by simp)⟩
  | 1, hm => exact ⟨1, (Option.some.inj hm).symm, rfl, sign_in hj (by simp)⟩
theorem step_at {p : P3} {j m : Nat} {sg : Int} (hm : m < 3) : ∃ x : Int, [V.int p.1, .int p.2.1, .int p.2.2][m]? = some (.int x) ∧ [(stepP p j sg).1, (stepP p j sg).2.1, (stepP p j sg).2.2][m]? = some (if ((m : Nat) : Int) = 0 + ((j : Nat) : Int) then x + sg else x) := by
  have e : ∀ (n : Nat) (a b : Int), (if n = j then a else b) = if ((n : Nat) : Int) = 0 + ((j : Nat) : Int) then a else b := fun n a b => by
    by_cases h : n = j
    · rw [if_pos h, if_pos (by omega)]
    · rw [if_neg h, if_neg (by omega)]
  match m, hm with
  | 0, _ => exact ⟨p.1, rfl, by rw [← e]; rfl⟩
  | 1, _ => exact ⟨p.2.1, rfl, by rw [← e]; rfl⟩
  | 2, _ => exact ⟨p.2.2, rfl, by rw [← e]; rfl⟩
/-- what stands from the drawing on -/
structure Env0 (K : PySem.W.Frag) (H : Hp) (d sc : Addr) (ns : List Int) (n : Nat) (L To St pa ca : Addr) (yl yt ys : List V) (bl bt bs : List Box) : Prop where
  dr : Drw H d sc ns n
  hl : H L = some (.lst yl)
  al : TpAll K H yl (bl.map boxD)
  ht : H To = some (.lst yt)
  at' : TpAll K H yt (bt.map boxD)
  hs : H St = some (.lst ys)
  as' : TpAll K H ys (bs.map boxD)
  hp : H pa = some (.dT (kvD (cellDict bl)))
  hc : H ca = some (.dT (kvD (cellDict bt)))
  hpc : pa ≠ ca
theorem Env0.same {K : PySem.W.Frag} {H H' : Hp} {d sc : Addr} {ns : List Int} {n : Nat} {L To St pa ca : Addr} {yl yt ys : List V} {bl bt bs : List Box} (h : Env0 K H d sc ns n L To St pa ca yl yt ys bl bt bs) (s : Same H H') :
    Env0 K H' d sc ns n L To St pa ca yl yt ys bl bt bs :=
  ⟨h.dr.same s, s _ _ h.hl, h.al.mono (TS.same s), s _ _ h.ht, h.at'.mono (TS.same s), s _ _ h.hs, h.as'.mono (TS.same s), s _ _ h.hp, s _ _ h.hc, h.hpc⟩
theorem el_if2 {σ : L2.St} {H : Hp} {Q : VK} {a b c e : Nat} {n j x sg v' : Int} (ha : σ[a]? = some (some (.int n))) (hb : σ[b]? = some (some (.int j))) (hc : σ[c]? = some (some (.int x))) (he : σ[e]? = some (some (.int sg)))
    (hv : v' = if n = j then x + sg else x) (q : Q (.int v') H) : tIf (tTest (tOp rEq (tVar a) (tVar b))) (tOp (rI0 fun i j => .int (i + j)) (tVar c) (tVar e)) (tVar c) σ H Q := by
  refine ⟨_, ha, _, hb, rfl, _, rfl, ?_⟩
  by_cases h : n = j
  · rw [decide_eq_true (show V.int n = V.int j by rw [h])]
    rw [if_pos h] at hv
    subst hv
    exact iteT ⟨_, hc, _, he, _, _, rfl, rfl, q⟩
  · rw [decide_eq_false (show ¬ V.int n = V.int j from fun z => h (V.int.inj z))]
    rw [if_neg h] at hv
    subst hv
    exact iteF ⟨_, hc, q⟩
section
variable {P : Program} {w : World} {K : PySem.W.Frag} {mg : Str → Option Value} {base : Heap} {ax : Addr}
variable {fE fK fR fS fL : Addr} {dE dK dR dS dL : FuncData} {fU fO fB fX fY : Addr} {dU dO dB dX dY : FuncData}
variable {iN iR iA iL : Addr} {jN jR jA jL : FuncData} {sS sC sB sV : Addr} {tS tC' tB' tV : FuncData} {rD rC rN rX : Addr} {qD qC qN qX : FuncData}
variable {f1 f2 f3 f4 f5 f6 f7 f8 f9 fM : Addr} {d1 d2 d3 d4 d5 d6 d7 d8 d9 dM : FuncData}
theorem scLaw : FnScope ["_law_script", "_law_draw_here", "_law_lot", "_law_tool", "_law_stuff", "_law_points", "_law_cutter", "_law_due", "_law_point", "_law_one", "_law_found", "_law_near", "_law_axis", "_law_sign", "_law_at"] ["_law_script"] (defScope sLaw) := ⟨rfl, rfl, rfl, by decide +kernel, rfl, by decide +kernel, by decide +kernel⟩
def spLaw (K : PySem.W.Frag) : Sp := fun vs H Q _ => ∃ (a : Addr) (ns : List Int), vs = [.ref a] ∧ SqL K H a (ns.map V.int) ∧ ∀ H', Q (.bl true) H'
theorem ok_law {f : Addr} {fd : FuncData} (F : Fun K "law" "law" sLaw f fd) (A : LDefs K mg f1 f2 f3 f4 f5 f6 f7 f8 f9 fM d1 d2 d3 d4 d5 d6 d7 d8 d9 dM) (D : DDefs K mg rD rC rN rX qD qC qN qX) (S : SDefs K mg sS sC sB sV tS tC' tB' tV) (I : IDefs K mg iN iR iA iL jN jR jA jL)
    (B : BDefs K mg fU fO fB fX fY dU dO dB dX dY) (E0 : Defs K mg fE fK fR fS fL dE dK dR dS dL) (T : Txt K mg ax) : FnOk P w K mg base CX0 10 f fd ["_law_script"] (spLaw K) := by
  have G1 : FnOk P w K mg base CX0 4 f1 d1 ["_law_draw_here", "_law_many", "_law_wide"] (spLBoxes K) := ok_LBoxes A.F1 D T
  have G2 : FnOk P w K mg base CX0 8 f2 d2 ["_law_boxes_here"] (spOfBoxes K) := ok_LSolid A.F2 B.FU B.bU B.gU B.FO B.bO B.gO B.FB B.bB B.gB E0 T
  have G3 : FnOk P w K mg base CX0 7 f3 d3 ["_law_solid_here", "_law_cells_here"] (spLIs K) := ok_LIs A.F3 S I T
  have G4 : FnOk P w K mg base CX0 1 f4 d4 ["_law_point", "_law_other", "_law_sign"] (spLBy K) := ok_LBy A.F4 T
  have G5 : FnOk P w K mg base CX0 9 f5 d5 ["lot", "tool"] (spPairs K sweepB false) := ok_swept A.F5 B E0 T
  have G6 : FnOk P w K mg base CX0 9 f6 d6 ["tool", "solid"] (spPairs K barB true) := ok_barred A.F6 B E0 T
  have G7 : FnOk P w K mg base CX0 9 f7 d7 ["lot"] (spNeigh K) := ok_neigh A.F7 B E0 T
  have G8 : FnOk P w K mg base CX0 1 f8 d8 ["solid", "by"] (spMoved K) := ok_moved A.F8 T
  have G9 : FnOk P w K mg base CX0 7 f9 d9 ["one", "other"] (spDoMeet K) := ok_doMeet A.F9 A.FM A.bM A.gM E0 T
  have GC : FnOk P w K mg base CX0 1 sC tC' ["_law_boxes_here"] (spLCells K) := ok_LCells S.FC T
  have GX : FnOk P w K mg base CX0 3 rX qX ["_law_draw_here", "_law_bound"] spNext := D.next T
  refine F.ok scLaw (fun vs H Q E h => ?_) (fun cdv A0 outer s H vs Q E hr h => ?_)
  · obtain ⟨a, ns, rfl, _⟩ := h
    rfl
  · obtain ⟨a, ns, rfl, hs, q⟩ := h
    have hu := hu_of hr
    have hu2 := hu2_of hr
    have hr9 : Room 9 _ := hr.mono (by decide)
    have hr8 : Room 8 _ := hr.mono (by decide)
    have hr7 : Room 7 _ := hr.mono (by decide)
    have hr4 : Room 4 _ := hr.mono (by decide)
    have hr3 : Room 3 _ := hr.mono (by decide)
    have hr1 : Room 1 _ := hr.mono (by decide)
    refine ⟨_, (pss_cons (ps_set (i := 1) scLaw.nd rfl (.inr rfl) (pe_lst (pa_cons (pe_slice sl_list (pv 0) po_none (po_some pe_int)) (pa_cons pe_int (pa_cons pe_int pa_nil)))))
      (pss_cons (ps_par3 (i := 2) (j := 3) (l := 4) rfl scLaw.nd rfl rfl rfl (by decide) (by decide) (by decide) rfl rfl rfl (pa_cons (pe_call G1 hr4 (by rfl) A.g1 A.F1.kp A.b1 .nil pass0 (pa_cons (pv 1) (pa_cons pe_int (pa_cons pe_int pa_nil)))) (pa_cons (pe_call G1 hr4 (by rfl) A.g1 A.F1.kp A.b1 .nil pass0 (pa_cons (pv 1) (pa_cons pe_int (pa_cons pe_int pa_nil)))) (pa_cons (pe_call G1 hr4 (by rfl) A.g1 A.F1.kp A.b1 .nil pass0 (pa_cons (pv 1) (pa_cons pe_int (pa_cons pe_int pa_nil)))) pa_nil))) (by rfl))
      (pss_cons (ps_par (i := 5) (j := 6) rfl scLaw.nd rfl rfl (by decide) rfl rfl (pa_cons (pe_call GC hr1 (by rfl) S.gC S.FC.kp S.bC .nil pass0 (pa_cons (pv 2) pa_nil)) (pa_cons (pe_call GC hr1 (by rfl) S.gC S.FC.kp S.bC .nil pass0 (pa_cons (pv 3) pa_nil)) pa_nil)) (by rfl))
      (pss_cons (ps_set (i := 7) scLaw.nd rfl (.inl rfl) pe_dnewT)
      (pss_cons (ps_lock (ps_for PassesOwn.never rfl (pi_keys (pv 5)) (pg_name (i := 8) scLaw.nd rfl (.inl rfl)) (pss_one (ps_lock (ps_for PassesOwn.never rfl (pi_keys (pv 6)) (pg_name (i := 9) scLaw.nd rfl (.inl rfl)) (pss_one (ps_asg pe_bl (pg_sub (pv 7) (pe_call G4 hr1 (by rfl) A.g4 A.F4.kp A.b4 .nil pass0 (pa_cons (pv 8) (pa_cons (pv 9) (pa_cons pe_int pa_nil)))) (set_dict hu)))))))))
      (pss_cons (ps_if (pt_not (pt_val (pe_call G3 hr7 (by rfl) A.g3 A.F3.kp A.b3 .nil pass0 (pa_cons (pe_call G5 hr9 (by rfl) A.g5 A.F5.kp A.b5 .nil pass0 (pa_cons (pe_call G2 hr8 (by rfl) A.g2 A.F2.kp A.b2 .nil pass0 (pa_cons (pv 2) pa_nil)) (pa_cons (pe_call G2 hr8 (by rfl) A.g2 A.F2.kp A.b2 .nil pass0 (pa_cons (pv 3) pa_nil)) pa_nil))) (pa_cons (pv 7) pa_nil))))) (pss_one (ps_ret pe_bl)) pss_nil)
      (pss_cons (ps_set (i := 7) scLaw.nd rfl (.inl rfl) pe_dnewT)
      (pss_cons (ps_for PassesOwn.never rfl (pi_keysL (pe_call GC hr1 (by rfl) S.gC S.FC.kp S.bC .nil pass0 (pa_cons (pv 4) pa_nil))) (pg_name (i := 8) scLaw.nd rfl (.inl rfl)) (pss_one (ps_lock (ps_for PassesOwn.never rfl (pi_keys (pv 6)) (pg_name (i := 9) scLaw.nd rfl (.inl rfl)) (pss_one (ps_asg pe_bl (pg_sub (pv 7) (pe_call G4 hr1 (by rfl) A.g4 A.F4.kp A.b4 .nil pass0 (pa_cons (pv 8) (pa_cons (pv 9) (pa_cons (pe_un un_neg pe_int) pa_nil)))) (set_dict hu))))))))
      (pss_cons (ps_set (i := 10) scLaw.nd rfl (.inl rfl) (pe_call G6 hr9 (by rfl) A.g6 A.F6.kp A.b6 .nil pass0 (pa_cons (pe_call G2 hr8 (by rfl) A.g2 A.F2.kp A.b2 .nil pass0 (pa_cons (pv 3) pa_nil)) (pa_cons (pe_call G2 hr8 (by rfl) A.g2 A.F2.kp A.b2 .nil pass0 (pa_cons (pv 4) pa_nil)) pa_nil))))
      (pss_cons (ps_if (pt_not (pt_val (pe_call G3 hr7 (by rfl) A.g3 A.F3.kp A.b3 .nil pass0 (pa_cons (pv 10) (pa_cons (pv 7) pa_nil))))) (pss_one (ps_ret pe_bl)) pss_nil)
      (pss_cons (ps_set (i := 11) scLaw.nd rfl (.inl rfl) (pe_callTy (call_dictT hu2) (by rfl) T.dict (by decide +kernel) (pa_cons (pv 5) pa_nil)))
      (pss_cons (ps_lock (ps_for PassesOwn.never rfl (pi_keys (pv 5)) (pg_name (i := 8) scLaw.nd rfl (.inl rfl)) (pss_one (ps_for PassesOwn.never rfl (pi_range1 (by rfl) T.range (pa_cons pe_int pa_nil)) (pg_name (i := 12) scLaw.nd rfl (.inr rfl)) (pss_one (ps_for PassesOwn.never rfl (pi_tup (pe_tup (pa_cons (pe_un un_neg pe_int) (pa_cons pe_int pa_nil)))) (pg_name (i := 13) scLaw.nd rfl (.inr rfl)) (pss_one (ps_asg pe_bl (pg_sub (pv 11) (pe_callTy (call_tuple_ofK K) (by rfl) T.tuple (by decide +kernel) (pa_cons (pe_lc (own := [("_law_at", 14), ("_law_one", 9)]) (g := gTup K 2 (gCons (gName 14) (gCons (gName 9) gNil))) (tt := tYes) rfl scLaw.nd (pi_enumT (by rfl) T.enum (pa_cons (pv 8) pa_nil)) (blkOk_by (N := ["_law_script", "_law_draw_here", "_law_lot", "_law_tool", "_law_stuff", "_law_points", "_law_cutter", "_law_due", "_law_point", "_law_one", "_law_found", "_law_near", "_law_axis", "_law_sign", "_law_at"]) (sc := defScope sLaw) (by decide +kernel)) (fun _ _ _ _ _ => pg_tup rfl (pgs_cons (pg_name (i := 14) scLaw.nd rfl (.inl rfl)) (pgs_cons (pg_name (i := 9) scLaw.nd rfl (.inl rfl)) pgs_nil))) (fun _ _ _ _ _ => pts_nil) (fun _ _ _ _ _ => pe_ifExp (pt_cmpR op_eq (pv 14) (pv 12) (nomark _)) (pe_op op_add (pv 9) (pv 13)) (pv 9))) pa_nil)) (set_dict hu))))))))))
      (pss_cons (ps_if (pt_not (pt_val (pe_call G3 hr7 (by rfl) A.g3 A.F3.kp A.b3 .nil pass0 (pa_cons (pe_call G7 hr9 (by rfl) A.g7 A.F7.kp A.b7 .nil pass0 (pa_cons (pe_call G2 hr8 (by rfl) A.g2 A.F2.kp A.b2 .nil pass0 (pa_cons (pv 2) pa_nil)) pa_nil)) (pa_cons (pv 11) pa_nil))))) (pss_one (ps_ret pe_bl)) pss_nil)
      (pss_cons (ps_set (i := 14) scLaw.nd rfl (.inl rfl) (pe_callTy (call_tuple_ofK K) (by rfl) T.tuple (by decide +kernel) (pa_cons (pe_lc (own := [("_law_axis", 12)]) (g := gName 12) (tt := tYes) rfl scLaw.nd (pi_range1 (by rfl) T.range (pa_cons pe_int pa_nil)) (blkOk_by (N := ["_law_script", "_law_draw_here", "_law_lot", "_law_tool", "_law_stuff", "_law_points", "_law_cutter", "_law_due", "_law_point", "_law_one", "_law_found", "_law_near", "_law_axis", "_law_sign", "_law_at"]) (sc := defScope sLaw) (by decide +kernel)) (fun _ _ _ _ _ => (pg_name (i := 12) scLaw.nd rfl (.inl rfl))) (fun _ _ _ _ _ => pts_nil) (fun _ _ _ _ _ => pe_op op_sub (pe_call GX hr3 (by rfl) D.gX D.FX.kp D.bX .nil pass0 (pa_cons (pv 1) (pa_cons pe_int pa_nil))) pe_int)) pa_nil)))
      (pss_one (ps_ret (pe_cmpR op_eq (pe_call G9 hr7 (by rfl) A.g9 A.F9.kp A.b9 .nil pass0 (pa_cons (pe_call G8 hr1 (by rfl) A.g8 A.F8.kp A.b8 .nil pass0 (pa_cons (pe_call G2 hr8 (by rfl) A.g2 A.F2.kp A.b2 .nil pass0 (pa_cons (pv 3) pa_nil)) (pa_cons (pv 14) pa_nil))) (pa_cons (pe_call G2 hr8 (by rfl) A.g2 A.F2.kp A.b2 .nil pass0 (pa_cons (pv 4) pa_nil)) pa_nil))) (pe_cmp (pc_din hu (pv 14) (pv 7))) (nomark _)))))))))))))))))), ?_⟩
    -- the drawing list
    refine ⟨_, rfl, 63, rfl, a, _, rfl, hs, fun sc nsc => ⟨line3 _ _ _, fun d nd => ?_⟩⟩
    obtain ⟨ns', hns⟩ : ∃ ns' : List Int, cutV (ns.map V.int) none (some 63) = ns'.map V.int := ⟨(ns.drop (HT.sIx (ns.map V.int).length 0 none)).take (HT.sIx (ns.map V.int).length (ns.map V.int).length (some 63) - HT.sIx (ns.map V.int).length 0 none), by unfold cutV; rw [List.map_take, List.map_drop]⟩
    rw [hns] at nd ⊢
    have dr0 : Drw (upd (upd H sc (.lst (ns'.map V.int))) d (.lst [.ref sc, .int 0, .int 0])) d sc ns' 0 := by
      have hne : sc ≠ d := fun z => by rw [← z, upd_same] at nd; cases nd
      exact ⟨upd_same, by rw [upd_ne hne, upd_same], hne⟩
    generalize hH0 : upd (upd H sc (.lst (ns'.map V.int))) d (.lst [.ref sc, .int 0, .int 0]) = H0 at *
    -- the drawn boxes
    refine ⟨_, rfl, d, sc, ns', 0, 4, rfl, dr0, by omega, by decide, fun H1 L yl bl n1 b1 r1 le1 nL hL0 al0 tw1 ea1 => ?_⟩
    refine ⟨_, rfl, d, sc, ns', n1, 3, rfl, r1, by omega, by decide, fun H2 To yt bt n2 b2 r2 le2 nT hT0 at0 tw2 ea2 => ?_⟩
    refine ⟨_, rfl, d, sc, ns', n2, 4, rfl, r2, by omega, by decide, fun H3 St ys bs n3 b3 r3 le3 nS hS0 as0 tw3 ea3 => ?_⟩
    refine ⟨_, _, _, rfl, ?_⟩
    have dbl : DB 5 bl := ⟨tw1, ea1⟩
    have dbt : DB 4 bt := ⟨tw2, ea2⟩
    have dbs : DB 5 bs := ⟨tw3, ea3⟩
    have neL : L ≠ d := (dr0.ne nL).1
    have neT : To ≠ d := (r1.ne nT).1
    have neS : St ≠ d := (r2.ne nS).1
    have hL3 : H3 L = some (.lst yl) := b3 _ _ (b2 _ _ hL0 neL) neL
    have hT3 : H3 To = some (.lst yt) := b3 _ _ hT0 neT
    have al3 : TpAll K H3 yl (bl.map boxD) := (al0.mono (b2.ts r1.1)).mono (b3.ts r2.1)
    have at3 : TpAll K H3 yt (bt.map boxD) := at0.mono (b3.ts r2.1)
    -- the lot's and the tool's cubes
    have ldl : (cellDict bl).length ≤ 10000 := Nat.le_trans dbl.len (by decide)
    have ldt : (cellDict bt).length ≤ 10000 := Nat.le_trans dbt.len (by decide)
    have lds : (cellDict bs).length ≤ 10000 := Nat.le_trans dbs.len (by decide)
    have bdl := dbl.bd (by decide)
    have bdt := dbt.bd (by decide)
    have bds := dbs.bd (by decide)
    have nl10 : bl.length ≤ 10000 := Nat.le_trans tw1 (by decide)
    have nt10 : bt.length ≤ 10000 := Nat.le_trans tw2 (by decide)
    have ns10 : bs.length ≤ 10000 := Nat.le_trans tw3 (by decide)
    refine ⟨_, rfl, L, yl, bl, rfl, .inl (.inl hL3), al3, bdl, ldl, fun H4 pa s4 npa hpa4 => ?_⟩
    refine ⟨_, rfl, To, yt, bt, rfl, .inl (.inl (s4 _ _ hT3)), at3.mono (TS.same s4), bdt, ldt, fun H5 ca s5 nca hca5 => ?_⟩
    refine ⟨_, _, rfl, ?_⟩
    have s35 := s4.trans s5
    have en : Env0 K H5 d sc ns' n3 L To St pa ca yl yt ys bl bt bs :=
      ⟨r3.same s35, s35 _ _ hL3, al3.mono (TS.same s35), s35 _ _ hT3, at3.mono (TS.same s35), s35 _ _ hS0, as0.mono (TS.same s35), s5 _ _ hpa4, hca5, ne_of_none hpa4 nca⟩
    clear s35 hT3 hL3 al3 at3 s4 s5 hpa4 hca5 npa nca b1 b2 b3 r1 r2 r3 al0 at0 as0 hL0 hT0 hS0 dr0 nL nT nS hs
    generalize H5 = Ha at *
    -- due of the sweep
    intro e ne
    have se : Same Ha (upd Ha e (.dT [])) := same_new ne
    refine ⟨pa, _, se _ _ en.hp, trivial, fun od => ?_⟩
    refine ⟨_, rfl, pa, od, rfl, .inr ⟨_, upd_same, ?_⟩⟩
    have nepa : e ≠ pa := (ne_of_none en.hp ne).symm
    refine for_it walk_keysT (fun i σ H5 => ∃ y8 y9, σ = [some (.ref a), some (.ref d), some (.ref L), some (.ref To), some (.ref St), some (.ref pa), some (.ref ca), some (.ref e), y8, y9, none, none, none, none, none] ∧ But pa Ha H5 ∧ H5 pa = some (.frz od (.dT (kvD (cellDict bl)))) ∧ H5 e = some (.dT (kvD (insAll [] (dueAll 1 ((cellDict bl).take i) (cellDict bt))))))
      ⟨none, none, rfl, fun b o h h1 => by rw [upd_ne h1]; exact se _ _ h, upd_same, by rw [upd_ne nepa, upd_same]; rfl⟩ (fun i σ H5 _ ⟨_, _, _, _, h, _⟩ => h) ?_ ?_
    · rintro i x σ H5 H5' hi ⟨y8, y9, rfl, b5, hp5, he5⟩ ⟨rfl, k, v, qa, hk, rfl, hqa⟩
      obtain ⟨p, hpi, rfl⟩ := kvD_at hk
      have w0 : Within (dueAll 1 (cellDict bl) (cellDict bt)) (insAll [] (dueAll 1 ((cellDict bl).take i) (cellDict bt))) := (Within.nil _).add fun q hq => take_sub hq
      rw [dueAll_take hpi, insAll_append]
      generalize hk0 : insAll [] (dueAll 1 ((cellDict bl).take i) (cellDict bt)) = k0 at *
      have hca5 : H5' ca = some (.dT (kvD (cellDict bt))) := b5 _ _ en.hc (Ne.symm en.hpc)
      refine ⟨ca, _, hca5, trivial, fun od2 => ?_⟩
      have hne : ∀ {x : Addr} {o : HO}, H5' x = some o → (∀ ks, o ≠ .dT ks) → x ≠ ca := fun h hn z => by rw [z, hca5] at h; exact hn _ (Option.some.inj h).symm
      have hep : e ≠ pa := fun z => by rw [z, hp5] at he5; cases he5
      have hec : e ≠ ca := (ne_of_none en.hc ne).symm
      refine ⟨_, rfl, ca, od2, rfl, .inr ⟨_, upd_same, ?_⟩⟩
      refine for_it walk_keysT (fun j σ H6 => ∃ y9, σ = [some (.ref a), some (.ref d), some (.ref L), some (.ref To), some (.ref St), some (.ref pa), some (.ref ca), some (.ref e), some (.ref qa), y9, none, none, none, none, none] ∧ (∀ b o, Ha b = some o → b ≠ pa → b ≠ ca → H6 b = some o) ∧ H6 pa = some (.frz od (.dT (kvD (cellDict bl)))) ∧ H6 ca = some (.frz od2 (.dT (kvD (cellDict bt)))) ∧ H6 qa = some (.tup [.int p.1, .int p.2.1, .int p.2.2]) ∧ H6 e = some (.dT (kvD (insAll k0 (((cellDict bt).take j).map (byP 1 p))))))
        ⟨_, rfl, fun b o h h1 h2 => by rw [upd_ne h2]; exact b5 _ _ h h1, by rw [upd_ne (hne hp5 fun ks z => by cases z)]; exact hp5, upd_same, by rw [upd_ne (hne hqa fun ks z => by cases z)]; exact hqa, by rw [upd_ne hec]; exact he5⟩ (fun j σ H6 _ ⟨_, _, _, _, h, _⟩ => h) ?_ ?_
      · rintro j x σ H6 H6' hj ⟨z9, rfl, b6, hp6, hc6, hq6, he6⟩ ⟨rfl, k', v', ra, hk', rfl, hra⟩
        obtain ⟨r, hrj, rfl⟩ := kvD_at hk'
        have w1 : Within (dueAll 1 (cellDict bl) (cellDict bt)) (insAll k0 (((cellDict bt).take j).map (byP 1 p))) := w0.add fun q hq => by
          obtain ⟨r', hr', e'⟩ := List.mem_map.mp hq
          exact List.mem_flatMap.mpr ⟨p, List.mem_of_getElem? hpi, List.mem_map.mpr ⟨r', List.mem_of_mem_take hr', e'⟩⟩
        rw [List.take_add_one, hrj, List.map_append, insAll_append]
        generalize hk1 : insAll k0 (((cellDict bt).take j).map (byP 1 p)) = k1 at *
        have w1l := w1.len
        rw [dueAll_len] at w1l
        have hmul : (cellDict bl).length * (cellDict bt).length ≤ 54 * 54 := Nat.mul_le_mul dbl.len dbt.len
        have hpe : pa ≠ e := fun z => hep z.symm
        have hqe : qa ≠ e := fun z => by rw [z, he6] at hq6; cases hq6
        refine ⟨_, rfl, _, rfl, _, rfl, ⟨qa, ra, p, r, 1, rfl, .inl (.inl hq6), .inl (.inl hra), .inl rfl, fun H7 u s7 nu hu7 => ?_⟩⟩
        refine ⟨e, _, rfl, kvD_dput (q := byP 1 p r) (s7 _ _ he6) hu7 (by omega), ?_⟩
        refine ⟨_, rfl, fun b o h h1 h2 => ?_, ?_, ?_, ?_, upd_same⟩
        · rw [upd_ne (ne_of_none h ne)]
          exact s7 _ _ (b6 _ _ h h1 h2)
        · rw [upd_ne hpe]
          exact s7 _ _ hp6
        · rw [upd_ne (Ne.symm hec)]
          exact s7 _ _ hc6
        · rw [upd_ne hqe]
          exact s7 _ _ hq6
      · rintro σ H6 ⟨z9, rfl, b6, hp6, hc6, hq6, he6⟩
        rw [show (kvD (cellDict bt)).length = (cellDict bt).length from kvD_len _, List.take_length] at he6
        have hpca : pa ≠ ca := en.hpc
        refine ⟨hc6, _, _, rfl, fun b o h h1 => ?_, ?_, ?_⟩
        · by_cases hb : b = ca
          · rw [hb, upd_same]
            rw [hb, en.hc] at h
            exact h
          · rw [upd_ne hb]
            exact b6 _ _ h h1 hb
        · rw [upd_ne hpca]
          exact hp6
        · rw [upd_ne hec]
          exact he6
    rintro σ H6 ⟨y8, y9, rfl, b6, hp6, he6⟩
    rw [show (kvD (cellDict bl)).length = (cellDict bl).length from kvD_len _, List.take_length] at he6
    refine ⟨hp6, ?_⟩
    have s6 : Same Ha (upd H6 pa (.dT (kvD (cellDict bl)))) := unlock_same b6 en.hp
    have he7 : (upd H6 pa (.dT (kvD (cellDict bl)))) e = some (.dT (kvD (dueK 1 (cellDict bl) (cellDict bt)))) := by
      rw [upd_ne nepa]
      exact he6
    generalize hHb : upd H6 pa (.dT (kvD (cellDict bl))) = Hb at *
    have en2 := en.same s6
    clear b6 hp6 he6 hHb s6 en se
    -- swept
    refine ⟨_, rfl, L, yl, bl, rfl, .inl (.inl en2.hl), en2.al, bdl, nl10, fun sL H7 v1 s7 okL tL => ?_⟩
    refine ⟨_, rfl, To, yt, bt, rfl, .inl (.inl (s7 _ _ en2.ht)), en2.at'.mono (TS.same s7), bdt, nt10, fun sT H8 v2 s8 okT tT => ?_⟩
    have pr := bd_pairs (g := sweepB) (fun b c => bd_sweep (by decide) (by decide)) dbl dbt okL okT
    refine ⟨v1, v2, sL, sT, rfl, tL.mono (TS.same s8), tT, okL.1, okT.1, pr.1, pr.2, fun u H9 v3 s9 okU tU => ?_⟩
    have s79 := (s7.trans s8).trans s9
    have hdl : (dueK 1 (cellDict bl) (cellDict bt)).length ≤ 10000 := by
      have h1 : Within (dueAll 1 (cellDict bl) (cellDict bt)) (dueK 1 (cellDict bl) (cellDict bt)) := (Within.nil _).add fun q h => h
      have h2 := h1.len
      rw [dueAll_len] at h2
      have h3 : (cellDict bl).length * (cellDict bt).length ≤ 54 * 54 := Nat.mul_le_mul dbl.len dbt.len
      omega
    refine ⟨_, rfl, v3, e, u, _, rfl, tU, okU.1, s79 _ _ he7, nodup_dueK _ _ _, hdl, due_swept okL okT okU, fun H10 s10 => ⟨true, rfl, iteF ?_⟩⟩
    have en3 := en2.same (s79.trans s10)
    clear s7 s8 s9 s79 s10 en2 he7 tL tT tU okU okL okT pr hdl
    generalize H10 = Hc at *
    -- due of what is barred
    intro e2 ne2
    have se2 : Same Hc (upd Hc e2 (.dT [])) := same_new ne2
    refine ⟨_, rfl, St, ys, bs, rfl, .inl (.inl (se2 _ _ en3.hs)), en3.as'.mono (TS.same se2), bds, lds, fun H11 a2 s11 na2' ha2 => ⟨a2, _, rfl, ha2, fun od => ?_⟩⟩
    have na2 : Hc a2 = none := by
      cases hh : Hc a2 with
      | none => rfl
      | some o => exact absurd (se2 _ _ hh) (by rw [na2']; exact fun z => nomatch z)
    have he11 : H11 e2 = some (.dT []) := s11 _ _ upd_same
    have nea : e2 ≠ a2 := fun z => by rw [← z, upd_same] at na2'; cases na2'
    have s12 := se2.trans s11
    refine for_it walk_keysT (fun i σ H5 => ∃ y8 y9, σ = [some (.ref a), some (.ref d), some (.ref L), some (.ref To), some (.ref St), some (.ref pa), some (.ref ca), some (.ref e2), y8, y9, none, none, none, none, none] ∧ But a2 Hc H5 ∧ H5 a2 = some (.frz od (.dT (kvD (cellDict bs)))) ∧ H5 e2 = some (.dT (kvD (insAll [] (dueAll (-1) ((cellDict bs).take i) (cellDict bt))))))
      ⟨y8, y9, rfl, fun b o h h1 => by rw [upd_ne h1]; exact s12 _ _ h, upd_same, by rw [upd_ne nea]; exact he11⟩ (fun i σ H5 _ ⟨_, _, _, _, h, _⟩ => h) ?_ ?_
    · rintro i x σ H5 H5' hi ⟨y8, y9, rfl, b5, hp5, he5⟩ ⟨rfl, k, v, qa, hk, rfl, hqa⟩
      obtain ⟨p, hpi, rfl⟩ := kvD_at hk
      have w0 : Within (dueAll (-1) (cellDict bs) (cellDict bt)) (insAll [] (dueAll (-1) ((cellDict bs).take i) (cellDict bt))) := (Within.nil _).add fun q hq => take_sub hq
      rw [dueAll_take hpi, insAll_append]
      generalize hk0 : insAll [] (dueAll (-1) ((cellDict bs).take i) (cellDict bt)) = k0 at *
      have hca5 : H5' ca = some (.dT (kvD (cellDict bt))) := b5 _ _ en3.hc ((ne_of_none en3.hc na2))
      refine ⟨ca, _, hca5, trivial, fun od2 => ?_⟩
      have hne : ∀ {x : Addr} {o : HO}, H5' x = some o → (∀ ks, o ≠ .dT ks) → x ≠ ca := fun h hn z => by rw [z, hca5] at h; exact hn _ (Option.some.inj h).symm
      have hep : e2 ≠ a2 := fun z => by rw [z, hp5] at he5; cases he5
      have hec : e2 ≠ ca := (ne_of_none en3.hc ne2).symm
      refine ⟨_, rfl, ca, od2, rfl, .inr ⟨_, upd_same, ?_⟩⟩
      refine for_it walk_keysT (fun j σ H6 => ∃ y9, σ = [some (.ref a), some (.ref d), some (.ref L), some (.ref To), some (.ref St), some (.ref pa), some (.ref ca), some (.ref e2), some (.ref qa), y9, none, none, none, none, none] ∧ (∀ b o, Hc b = some o → b ≠ a2 → b ≠ ca → H6 b = some o) ∧ H6 a2 = some (.frz od (.dT (kvD (cellDict bs)))) ∧ H6 ca = some (.frz od2 (.dT (kvD (cellDict bt)))) ∧ H6 qa = some (.tup [.int p.1, .int p.2.1, .int p.2.2]) ∧ H6 e2 = some (.dT (kvD (insAll k0 (((cellDict bt).take j).map (byP (-1) p))))))
        ⟨_, rfl, fun b o h h1 h2 => by rw [upd_ne h2]; exact b5 _ _ h h1, by rw [upd_ne (hne hp5 fun ks z => by cases z)]; exact hp5, upd_same, by rw [upd_ne (hne hqa fun ks z => by cases z)]; exact hqa, by rw [upd_ne hec]; exact he5⟩ (fun j σ H6 _ ⟨_, _, _, _, h, _⟩ => h) ?_ ?_
      · rintro j x σ H6 H6' hj ⟨z9, rfl, b6, hp6, hc6, hq6, he6⟩ ⟨rfl, k', v', ra, hk', rfl, hra⟩
        obtain ⟨r, hrj, rfl⟩ := kvD_at hk'
        have w1 : Within (dueAll (-1) (cellDict bs) (cellDict bt)) (insAll k0 (((cellDict bt).take j).map (byP (-1) p))) := w0.add fun q hq => by
          obtain ⟨r', hr', e'⟩ := List.mem_map.mp hq
          exact List.mem_flatMap.mpr ⟨p, List.mem_of_getElem? hpi, List.mem_map.mpr ⟨r', List.mem_of_mem_take hr', e'⟩⟩
        rw [List.take_add_one, hrj, List.map_append, insAll_append]
        generalize hk1 : insAll k0 (((cellDict bt).take j).map (byP (-1) p)) = k1 at *
        have w1l := w1.len
        rw [dueAll_len] at w1l
        have hmul : (cellDict bs).length * (cellDict bt).length ≤ 54 * 54 := Nat.mul_le_mul dbs.len dbt.len
        have hpe : a2 ≠ e2 := fun z => hep z.symm
        have hqe : qa ≠ e2 := fun z => by rw [z, he6] at hq6; cases hq6
        refine ⟨_, rfl, _, rfl, _, rfl, 1, rfl, ⟨qa, ra, p, r, (-1), rfl, .inl (.inl hq6), .inl (.inl hra), .inr rfl, fun H7 u s7 nu hu7 => ?_⟩⟩
        refine ⟨e2, _, rfl, kvD_dput (q := byP (-1) p r) (s7 _ _ he6) hu7 (by omega), ?_⟩
        refine ⟨_, rfl, fun b o h h1 h2 => ?_, ?_, ?_, ?_, upd_same⟩
        · rw [upd_ne (ne_of_none h ne2)]
          exact s7 _ _ (b6 _ _ h h1 h2)
        · rw [upd_ne hpe]
          exact s7 _ _ hp6
        · rw [upd_ne (Ne.symm hec)]
          exact s7 _ _ hc6
        · rw [upd_ne hqe]
          exact s7 _ _ hq6
      · rintro σ H6 ⟨z9, rfl, b6, hp6, hc6, hq6, he6⟩
        rw [show (kvD (cellDict bt)).length = (cellDict bt).length from kvD_len _, List.take_length] at he6
        have hpca : a2 ≠ ca := (ne_of_none en3.hc na2).symm
        refine ⟨hc6, _, _, rfl, fun b o h h1 => ?_, ?_, ?_⟩
        · by_cases hb : b = ca
          · rw [hb, upd_same]
            rw [hb, en3.hc] at h
            exact h
          · rw [upd_ne hb]
            exact b6 _ _ h h1 hb
        · rw [upd_ne hpca]
          exact hp6
        · rw [upd_ne hec]
          exact he6
    rintro σ H6 ⟨z8, z9, rfl, b6, hp6, he6⟩
    rw [show (kvD (cellDict bs)).length = (cellDict bs).length from kvD_len _, List.take_length] at he6
    have s6 : Same Hc H6 := fun b o h => b6 _ _ h (ne_of_none h na2)
    have he7 : H6 e2 = some (.dT (kvD (dueK (-1) (cellDict bs) (cellDict bt)))) := he6
    have en4 := en3.same s6
    clear b6 hp6 he6 s6 en3 se2 ha2 he11 s12 s11 nea na2 na2' ne2
    -- barred
    refine ⟨_, rfl, To, yt, bt, rfl, .inl (.inl en4.ht), en4.at', bdt, nt10, fun sT H7 v1 s7 okT tT => ?_⟩
    refine ⟨_, rfl, St, ys, bs, rfl, .inl (.inl (s7 _ _ en4.hs)), en4.as'.mono (TS.same s7), bds, ns10, fun sS H8 v2 s8 okS tS => ?_⟩
    have pr := bd_pairs (g := barB) (fun b c => bd_bar (by decide) (by decide)) dbs dbt okS okT
    refine ⟨v2, v1, sS, sT, rfl, tS, tT.mono (TS.same s8), okS.1, okT.1, pr.1, pr.2, fun u H9 v3 s9 okU tU => ?_⟩
    have s79 := (s7.trans s8).trans s9
    have hdl : (dueK (-1) (cellDict bs) (cellDict bt)).length ≤ 10000 := by
      have h1 : Within (dueAll (-1) (cellDict bs) (cellDict bt)) (dueK (-1) (cellDict bs) (cellDict bt)) := (Within.nil _).add fun q h => h
      have h2 := h1.len
      rw [dueAll_len] at h2
      have h3 : (cellDict bs).length * (cellDict bt).length ≤ 54 * 54 := Nat.mul_le_mul dbs.len dbt.len
      omega
    refine ⟨_, rfl, _, rfl, v3, e2, u, _, rfl, tU, okU.1, s79 _ _ he7, nodup_dueK _ _ _, hdl, due_barred okS okT okU, fun H10 s10 => ⟨true, rfl, iteF ?_⟩⟩
    have en5 := en4.same (s79.trans s10)
    have he10 := s10 _ _ (s79 _ _ he7)
    clear s7 s8 s9 s79 s10 en4 he7 tS tT tU okU okS okT pr hdl
    generalize H10 = Hd at *
    -- the neighbours
    refine ⟨_, rfl, pa, _, rfl, en5.hp, hash_apart (nodup_cellDict _) (fun q hq => dbl.mem hq), fun nr nnr => ?_⟩
    have sr : Same Hd (upd Hd nr (.dT (kvD (cellDict bl)))) := same_new nnr
    refine ⟨pa, _, sr _ _ en5.hp, trivial, fun od => ?_⟩
    refine ⟨_, rfl, pa, od, rfl, .inr ⟨_, upd_same, ?_⟩⟩
    have nepa' : nr ≠ pa := (ne_of_none en5.hp nnr).symm
    refine for_it walk_keysT (fun i σ H5 => ∃ y8 y12 y13, σ = [some (.ref a), some (.ref d), some (.ref L), some (.ref To), some (.ref St), some (.ref pa), some (.ref ca), some (.ref e2), y8, z9, some v3, some (.ref nr), y12, y13, none] ∧ But pa Hd H5 ∧ H5 pa = some (.frz od (.dT (kvD (cellDict bl)))) ∧ H5 nr = some (.dT (kvD (insAll (cellDict bl) (((cellDict bl).take i).flatMap stepsP)))))
      ⟨z8, none, none, rfl, fun b o h h1 => by rw [upd_ne h1]; exact sr _ _ h, upd_same, by rw [upd_ne nepa', upd_same]; rfl⟩ (fun i σ H5 _ ⟨_, _, _, _, _, h, _⟩ => h) ?_ ?_
    · rintro i x σ H5 H5' hi ⟨y8, y12, y13, rfl, b5, hp5, hr5⟩ ⟨rfl, k, v, qa, hk, rfl, hqa⟩
      obtain ⟨p, hpi, rfl⟩ := kvD_at hk
      have w0 : Within (cellDict bl ++ (cellDict bl).flatMap stepsP) (insAll (cellDict bl) (((cellDict bl).take i).flatMap stepsP)) :=
        Within.add ⟨nodup_cellDict _, fun q hq => List.mem_append_left _ hq⟩ fun q hq => List.mem_append_right _ (take_sub hq)
      rw [flat_take1 hpi, insAll_append]
      generalize hk0 : insAll (cellDict bl) (((cellDict bl).take i).flatMap stepsP) = k0 at *
      refine ⟨3, rfl, by decide, by decide, ?_⟩
      refine for_it (walk_range (lo := 0) (n := 3)) (fun j σ H6 => ∃ y12 y13, σ = [some (.ref a), some (.ref d), some (.ref L), some (.ref To), some (.ref St), some (.ref pa), some (.ref ca), some (.ref e2), some (.ref qa), z9, some v3, some (.ref nr), y12, y13, none] ∧ But pa Hd H6 ∧ H6 pa = some (.frz od (.dT (kvD (cellDict bl)))) ∧ H6 qa = some (.tup [.int p.1, .int p.2.1, .int p.2.2]) ∧ H6 nr = some (.dT (kvD (insAll k0 ((stepsP p).take (2 * j))))))
        ⟨_, _, rfl, b5, hp5, hqa, hr5⟩ (fun j σ H6 _ _ => trivial) ?_ ?_
      · rintro j x σ H6 H6' hj ⟨y12, y13, rfl, b6, hp6, hq6, hr6⟩ ⟨rfl, rfl⟩
        have w1 : Within (cellDict bl ++ (cellDict bl).flatMap stepsP) (insAll k0 ((stepsP p).take (2 * j))) :=
          w0.add fun q hq => List.mem_append_right _ (List.mem_flatMap.mpr ⟨p, List.mem_of_getElem? hpi, List.mem_of_mem_take hq⟩)
        rw [steps_take hj, insAll_append]
        generalize hk1 : insAll k0 ((stepsP p).take (2 * j)) = k1 at *
        refine ⟨1, rfl, line2 _ _, fun t nt => ?_⟩
        have st := same_new (o := .tup [.int (-1), .int 1]) nt
        refine ⟨t, rfl, ⟨_, seqT_new⟩, for_tup (K := K) (a := t) (xs := [.int (-1), .int 1]) (fun m σ H7 => ∃ y13, σ = [some (.ref a), some (.ref d), some (.ref L), some (.ref To), some (.ref St), some (.ref pa), some (.ref ca), some (.ref e2), some (.ref qa), z9, some v3, some (.ref nr), some (.int (0 + (j : Nat))), y13, none] ∧ But pa Hd H7 ∧ H7 pa = some (.frz od (.dT (kvD (cellDict bl)))) ∧ H7 qa = some (.tup [.int p.1, .int p.2.1, .int p.2.2]) ∧ H7 t = some (.tup [.int (-1), .int 1]) ∧ H7 nr = some (.dT (kvD (insAll k1 ([stepP p j (-1), stepP p j 1].take m)))))
          ⟨_, rfl, b6.trans (But.same st), st _ _ hp6, st _ _ hq6, upd_same, st _ _ hr6⟩ (fun m σ H7 _ ⟨_, _, _, _, _, h, _⟩ => .inl (.inl h)) ?_ ?_⟩
        · rintro m x σ H7 hm ⟨y13, rfl, b7, hp7, hq7, ht7, hr7⟩
          obtain ⟨sg, rfl, hsg, hmem⟩ : ∃ sg : Int, x = .int sg ∧ [stepP p j (-1), stepP p j 1][m]? = some (stepP p j sg) ∧ stepP p j sg ∈ stepsP p := sign_at hm hj
          have w2 : Within (cellDict bl ++ (cellDict bl).flatMap stepsP) (insAll k1 ([stepP p j (-1), stepP p j 1].take m)) :=
            w1.add fun q hq => List.mem_append_right _ (List.mem_flatMap.mpr ⟨p, List.mem_of_getElem? hpi, sign_in hj (List.mem_of_mem_take hq)⟩)
          rw [List.take_add_one, hsg, insAll_append]
          generalize hk2 : insAll k1 ([stepP p j (-1), stepP p j 1].take m) = k2 at *
          have w2l := w2.len
          rw [nearK_len] at w2l
          have hbl := dbl.len
          generalize hqq : stepP p j sg = qq at *
          refine ⟨_, rfl, _, rfl, qa, _, rfl, .inl (.inl hq7), fun D0 nD => ?_⟩
          have sD : Same H7 (upd H7 D0 (.lst [])) := same_new nD
          refine lc_it (walk_enumT (K := K) (a := qa) (xs := [.int p.1, .int p.2.1, .int p.2.2])) (fun m H8 => Same H7 H8 ∧ H8 D0 = some (.lst (([qq.1, qq.2.1, qq.2.2].take m).map V.int))) ⟨sD, upd_same⟩ (fun m H8 _ ⟨h, _⟩ => .inl (.inl (h _ _ hq7))) ?_ ?_
          · rintro m' x H8 H9 hm' ⟨s8, hD⟩ ⟨T', x1, x2, rfl, nT, rfl, g1, g2⟩
            have sT := same_new (o := .tup [x1, x2]) nT
            have g1 := Option.some.inj g1
            subst g1
            obtain ⟨xx, hxx, hq3⟩ := step_at (p := p) (j := j) (sg := sg) (m := m') hm'
            rw [hqq] at hq3
            have g2 : [V.int p.1, .int p.2.1, .int p.2.2][m']? = some x2 := g2
            rw [hxx] at g2
            have g2 := Option.some.inj g2
            subst g2
            refine ⟨T', _, rfl, seqT_new, rfl, _, [_], rfl, _, [], rfl, rfl, rfl, ?_⟩
            refine el_if2 rfl rfl rfl rfl rfl ⟨_, sT _ _ hD, small1000 (by rw [List.length_map, List.length_take]; show min m' 3 ≤ _; omega), same_at (s8.trans sT) nD, ?_⟩
            rw [upd_same, List.take_add_one, hq3, List.map_append]
            rfl
          · rintro H8 ⟨s8, hD⟩
            refine ⟨D0, _, rfl, .inl ⟨.inl (.inl hD), fun u2 nu2 => ?_⟩⟩
            have su := same_new (o := .tup [.int qq.1, .int qq.2.1, .int qq.2.2]) nu2
            have s9 := s8.trans su
            have hpn : pa ≠ nr := Ne.symm nepa'
            have hqn : qa ≠ nr := fun z => by rw [z, hr7] at hq7; cases hq7
            have htn : t ≠ nr := fun z => by rw [z, hr7] at ht7; cases ht7
            refine ⟨nr, _, rfl, kvD_dput (q := qq) (s9 _ _ hr7) upd_same (by omega), ?_⟩
            refine ⟨_, rfl, fun b o h h1 => ?_, ?_, ?_, ?_, upd_same⟩
            · rw [upd_ne (ne_of_none h nnr)]
              exact s9 _ _ (b7 _ _ h h1)
            · rw [upd_ne hpn]
              exact s9 _ _ hp7
            · rw [upd_ne hqn]
              exact s9 _ _ hq7
            · rw [upd_ne htn]
              exact s9 _ _ ht7
        · rintro σ H7 ⟨y13, rfl, b7, hp7, hq7, ht7, hr7⟩
          exact ⟨_, _, rfl, b7, hp7, hq7, hr7⟩
      · rintro σ H6 ⟨y12, y13, rfl, b6, hp6, hq6, hr6⟩
        exact ⟨_, _, _, rfl, b6, hp6, hr6⟩
    rintro σ H6 ⟨y8, y12, y13, rfl, b6, hp6, hr6⟩
    rw [show (kvD (cellDict bl)).length = (cellDict bl).length from kvD_len _, List.take_length] at hr6
    refine ⟨hp6, ?_⟩
    have s6 : Same Hd (upd H6 pa (.dT (kvD (cellDict bl)))) := unlock_same b6 en5.hp
    have hr7 : (upd H6 pa (.dT (kvD (cellDict bl)))) nr = some (.dT (kvD (nearK (cellDict bl)))) := by
      rw [upd_ne nepa']
      exact hr6
    generalize hHe : upd H6 pa (.dT (kvD (cellDict bl))) = He at *
    have en6 := en5.same s6
    have he8 := s6 _ _ he10
    clear b6 hp6 hr6 hHe s6 en5 sr he10
    refine ⟨_, rfl, L, yl, bl, rfl, .inl (.inl en6.hl), en6.al, bdl, nl10, fun sL H7 v4 s7 okL tL => ?_⟩
    refine ⟨v4, sL, rfl, tL, okL.1, Nat.le_trans (dbl.cnt okL) (by decide), bd_nb (by decide) dbl okL, fun u H8 v5 s8 okU tU => ?_⟩
    have s78 := s7.trans s8
    have hnl : (nearK (cellDict bl)).length ≤ 10000 := by
      have h1 : Within (cellDict bl ++ (cellDict bl).flatMap stepsP) (nearK (cellDict bl)) := Within.add ⟨nodup_cellDict _, fun q hq => List.mem_append_left _ hq⟩ fun q hq => List.mem_append_right _ hq
      have h2 := h1.len
      rw [nearK_len] at h2
      have h3 := dbl.len
      omega
    refine ⟨_, rfl, v5, nr, u, _, rfl, tU, okU.1, s78 _ _ hr7, nodup_nearK (nodup_cellDict _), hnl, due_near okL okU, fun H9 s9 => ⟨true, rfl, iteF ?_⟩⟩
    have en7 := en6.same (s78.trans s9)
    have he9 := s9 _ _ (s78 _ _ he8)
    clear s7 s8 s9 s78 en6 he8 hr7 tL tU okL okU hnl
    generalize H9 = Hf at *
    -- a place
    refine ⟨3, rfl, by decide, by decide, fun D1 nD1 => ?_⟩
    refine lc_draw (walk_range (lo := 0) (n := 3)) (fun _ y => -3 ≤ y ∧ y ≤ 4) nD1 en7.dr (fun _ _ => trivial) (fun i H x H' h => h.1) (fun j x H Q hj b5 d5 hy qy => ?_) (fun x y z H5 b5 d5 hD1 rx ry rz => ?_)
    · refine ⟨_, rfl, d, sc, ns', _, 8, rfl, d5, by omega, by decide, fun rr H6 b6 d6 g0 g1 => ?_⟩
      exact ⟨_, _, rfl, rfl, qy _ _ b6 d6 ⟨by omega, by omega⟩⟩
    refine ⟨D1, _, rfl, .inl ⟨.inl (.inl hD1), fun u1 n1 => ?_⟩⟩
    have q1 := same_new (o := .tup [.int x, .int y, .int z]) n1
    have bb := b5.trans (But.same q1)
    have tsb : TS K Hf _ := bb.ts en7.dr.1
    have hu1 : (upd H5 u1 (.tup [.int x, .int y, .int z])) u1 = some (.tup [.int x, .int y, .int z]) := upd_same
    have hT9 := bb _ _ en7.ht neT
    have hS9 := bb _ _ en7.hs neS
    have he2d : e2 ≠ d := fun w => by
      have h1 := en7.dr.1
      rw [← w, he9] at h1
      cases h1
    have heb := bb _ _ he9 he2d
    have at9 := en7.at'.mono tsb
    have as9 := en7.as'.mono tsb
    generalize hHg : upd H5 u1 (.tup [.int x, .int y, .int z]) = Hg at *
    clear hHg q1 bb n1
    refine ⟨_, rfl, To, yt, bt, rfl, .inl (.inl hT9), at9, bdt, nt10, fun sT H7 v6 s7 okT tT => ?_⟩
    refine ⟨_, rfl, v6, .ref u1, sT, (x, y, z), rfl, tT, Tp.ofPt (q := (x, y, z)) (.inl (.inl (s7 _ _ hu1))), okT.1, fun H8 v7 s8 t7 => ?_⟩
    refine ⟨_, rfl, St, ys, bs, rfl, .inl (.inl (s8 _ _ (s7 _ _ hS9))), as9.mono (TS.same (s7.trans s8)), bds, ns10, fun sS H9 v8 s9 okS tS => ?_⟩
    have n10 : n10S sT := n10_of okT.1 fun c hc => by
      obtain ⟨_, ⟨a1, a2⟩, ⟨b1, b2⟩, c1, c2⟩ := dbt.rng okT c hc
      refine ⟨⟨?_, ?_⟩, ⟨?_, ?_⟩, ?_, ?_⟩ <;> omega
    have mok : SolOk (movS z y x sT) := movS_ok okT.1 n10 ⟨by omega, by omega⟩ ⟨by omega, by omega⟩ ⟨by omega, by omega⟩
    refine ⟨v7, v8, movS z y x sT, sS, rfl, t7.mono (TS.same s9), tS, mok, okS.1, fun b Hh s10 hb => ?_⟩
    have sall := ((s7.trans s8).trans s9).trans s10
    refine ⟨_, rfl, _, rfl, e2, _, rfl, .inr ⟨_, key3 (x, y, z), u1, .inl (sall _ _ heb), rfl, sall _ _ hu1, rfl⟩, rfl, ?_⟩
    have hbe : (valV (kvD (dueK (-1) (cellDict bs) (cellDict bt))) (key3 (x, y, z))).isSome = b := by
      have hm := due_meet (k := (x, y, z)) okS okT
      by_cases hin : (x, y, z) ∈ dueK (-1) (cellDict bs) (cellDict bt)
      · rw [kvD_val hin]
        exact (hb.mpr (hm.mp hin)).symm
      · rw [kvD_none hin]
        cases b with
        | false => rfl
        | true => exact absurd (hm.mpr (hb.mp rfl)) hin
    rw [hbe, decide_eq_true rfl]
    exact q _
end
end K4
/-! D1_Mk: what the top has written, gathered (printed by gen19.py). -/
namespace K4
open PySem PySem.Spec PyProof.Rows L2

theorem all_mk {l : PySem.W.OpenLaw} {w : World} {K : PySem.W.Frag} {h : Heap} {mg : Str → Option Value} {fa ax f1 f2 f3 f4 f5 f6 f7 f8 f9 f10 f11 f12 f13 f14 f15 f16 f17 f18 f19 f20 f21 f22 f23 f24 f25 f26 f27 f28 f29 f30 f31 f32 : Addr} (X : K.In h) (G : h.Ns mainGlobals mg) (hfa : mg "law" = some (.ref fa))
    {od1 an1 od2 an2 od3 an3 od4 an4 od5 an5 od6 an6 od7 an7 od8 an8 od9 an9 od10 an10 od11 an11 od12 an12 od13 an13 od14 an14 od15 an15 od16 an16 od17 an17 od18 an18 od19 an19 od20 an20 od21 an21 od22 an22 od23 an23 od24 an24 od25 an25 od26 an26 od27 an27 od28 an28 od29 an29 od30 an30 od31 an31 od32 an32 odA : Option Addr} {sl1 sl2 sl3 sl4 sl5 sl6 sl7 sl8 sl9 sl10 sl11 sl12 sl13 sl14 sl15 sl16 sl17 sl18 sl19 sl20 sl21 sl22 sl23 sl24 sl25 sl26 sl27 sl28 sl29 sl30 sl31 sl32 slA : Array (Option Value)}
    {oc1 kV1 dc1 pm1 cd1 ct1 oc2 kV2 dc2 pm2 cd2 ct2 oc3 kV3 dc3 pm3 cd3 ct3 oc4 kV4 dc4 pm4 cd4 ct4 oc5 kV5 dc5 pm5 cd5 ct5 oc6 kV6 dc6 pm6 cd6 ct6 oc7 kV7 dc7 pm7 cd7 ct7 oc8 kV8 dc8 pm8 cd8 ct8 oc9 kV9 dc9 pm9 cd9 ct9 oc10 kV10 dc10 pm10 cd10 ct10 oc11 kV11 dc11 pm11 cd11 ct11 oc12 kV12 dc12 pm12 cd12 ct12 oc13 kV13 dc13 pm13 cd13 ct13 oc14 kV14 dc14 pm14 cd14 ct14 oc15 kV15 dc15 pm15 cd15 ct15 oc16 kV16 dc16 pm16 cd16 ct16 oc17 kV17 dc17 pm17 cd17 ct17 oc18 kV18 dc18 pm18 cd18 ct18 oc19 kV19 dc19 pm19 cd19 ct19 oc20 kV20 dc20 pm20 cd20 ct20 oc21 kV21 dc21 pm21 cd21 ct21 oc22 kV22 dc22 pm22 cd22 ct22 oc23 kV23 dc23 pm23 cd23 ct23 oc24 kV24 dc24 pm24 cd24 ct24 oc25 kV25 dc25 pm25 cd25 ct25 oc26 kV26 dc26 pm26 cd26 ct26 oc27 kV27 dc27 pm27 cd27 ct27 oc28 kV28 dc28 pm28 cd28 ct28 oc29 kV29 dc29 pm29 cd29 ct29 oc30 kV30 dc30 pm30 cd30 ct30 oc31 kV31 dc31 pm31 cd31 ct31 oc32 kV32 dc32 pm32 cd32 ct32 : Value} {tA tB tC : Tok} {nA : Nat}
    (a1 : PySem.W.nsIn K mainGlobals "is_number" = some (some (.ref f1))) (l1 : K.lookup f1 = some ⟨oc1, od1, .func (PySem.W.fnOf "is_number" "is_number" (defArgs sIsNumber) (defBody sIsNumber) (defScope sIsNumber) .none kV1 dc1 pm1 an1 cd1 ct1), sl1⟩) (c1 : PySem.W.codeIn K cd1 "is_number" = true) (k1 : PySem.W.keepIn K (.ref f1) = true)
    (a2 : PySem.W.nsIn K mainGlobals "is_row" = some (some (.ref f2))) (l2 : K.lookup f2 = some ⟨oc2, od2, .func (PySem.W.fnOf "is_row" "is_row" (defArgs sIsRow) (defBody sIsRow) (defScope sIsRow) .none kV2 dc2 pm2 an2 cd2 ct2), sl2⟩) (c2 : PySem.W.codeIn K cd2 "is_row" = true) (k2 : PySem.W.keepIn K (.ref f2) = true)
    (a3 : PySem.W.nsIn K mainGlobals "are_stretches" = some (some (.ref f3))) (l3 : K.lookup f3 = some ⟨oc3, od3, .func (PySem.W.fnOf "are_stretches" "are_stretches" (defArgs sAreStr) (defBody sAreStr) (defScope sAreStr) .none kV3 dc3 pm3 an3 cd3 ct3), sl3⟩) (c3 : PySem.W.codeIn K cd3 "are_stretches" = true) (k3 : PySem.W.keepIn K (.ref f3) = true)
    (a4 : PySem.W.nsIn K mainGlobals "is_layer" = some (some (.ref f4))) (l4 : K.lookup f4 = some ⟨oc4, od4, .func (PySem.W.fnOf "is_layer" "is_layer" (defArgs sIsLayer) (defBody sIsLayer) (defScope sIsLayer) .none kV4 dc4 pm4 an4 cd4 ct4), sl4⟩) (c4 : PySem.W.codeIn K cd4 "is_layer" = true) (k4 : PySem.W.keepIn K (.ref f4) = true)
    (a5 : PySem.W.nsIn K mainGlobals "is_solid" = some (some (.ref f5))) (l5 : K.lookup f5 = some ⟨oc5, od5, .func (PySem.W.fnOf "is_solid" "is_solid" (defArgs sIsSolid) (defBody sIsSolid) (defScope sIsSolid) .none kV5 dc5 pm5 an5 cd5 ct5), sl5⟩) (c5 : PySem.W.codeIn K cd5 "is_solid" = true) (k5 : PySem.W.keepIn K (.ref f5) = true)
    (a6 : PySem.W.nsIn K mainGlobals "is_kept" = some (some (.ref f6))) (l6 : K.lookup f6 = some ⟨oc6, od6, .func (PySem.W.fnOf "is_kept" "is_kept" (defArgs sIsKept) (defBody sIsKept) (defScope sIsKept) .none kV6 dc6 pm6 an6 cd6 ct6), sl6⟩) (c6 : PySem.W.codeIn K cd6 "is_kept" = true) (k6 : PySem.W.keepIn K (.ref f6) = true)
    (a7 : PySem.W.nsIn K mainGlobals "ends_of" = some (some (.ref f7))) (l7 : K.lookup f7 = some ⟨oc7, od7, .func (PySem.W.fnOf "ends_of" "ends_of" (defArgs sEndsOf) (defBody sEndsOf) (defScope sEndsOf) .none kV7 dc7 pm7 an7 cd7 ct7), sl7⟩) (c7 : PySem.W.codeIn K cd7 "ends_of" = true) (k7 : PySem.W.keepIn K (.ref f7) = true)
    (a8 : PySem.W.nsIn K mainGlobals "rows_made" = some (some (.ref f8))) (l8 : K.lookup f8 = some ⟨oc8, od8, .func (PySem.W.fnOf "rows_made" "rows_made" (defArgs sRows) (defBody sRows) (defScope sRows) .none kV8 dc8 pm8 an8 cd8 ct8), sl8⟩) (c8 : PySem.W.codeIn K cd8 "rows_made" = true) (k8 : PySem.W.keepIn K (.ref f8) = true)
    (a9 : PySem.W.nsIn K mainGlobals "stretches_made" = some (some (.ref f9))) (l9 : K.lookup f9 = some ⟨oc9, od9, .func (PySem.W.fnOf "stretches_made" "stretches_made" (defArgs sStr) (defBody sStr) (defScope sStr) .none kV9 dc9 pm9 an9 cd9 ct9), sl9⟩) (c9 : PySem.W.codeIn K cd9 "stretches_made" = true) (k9 : PySem.W.keepIn K (.ref f9) = true)
    (a10 : PySem.W.nsIn K mainGlobals "layers_made" = some (some (.ref f10))) (l10 : K.lookup f10 = some ⟨oc10, od10, .func (PySem.W.fnOf "layers_made" "layers_made" (defArgs sLayers) (defBody sLayers) (defScope sLayers) .none kV10 dc10 pm10 an10 cd10 ct10), sl10⟩) (c10 : PySem.W.codeIn K cd10 "layers_made" = true) (k10 : PySem.W.keepIn K (.ref f10) = true)
    (a11 : PySem.W.nsIn K mainGlobals "union" = some (some (.ref f11))) (l11 : K.lookup f11 = some ⟨oc11, od11, .func (PySem.W.fnOf "union" "union" (defArgs sUnion) (defBody sUnion) (defScope sUnion) .none kV11 dc11 pm11 an11 cd11 ct11), sl11⟩) (c11 : PySem.W.codeIn K cd11 "union" = true) (k11 : PySem.W.keepIn K (.ref f11) = true)
    (a12 : PySem.W.nsIn K mainGlobals "meet" = some (some (.ref f12))) (l12 : K.lookup f12 = some ⟨oc12, od12, .func (PySem.W.fnOf "meet" "meet" (defArgs sMeet) (defBody sMeet) (defScope sMeet) .none kV12 dc12 pm12 an12 cd12 ct12), sl12⟩) (c12 : PySem.W.codeIn K cd12 "meet" = true) (k12 : PySem.W.keepIn K (.ref f12) = true)
    (a13 : PySem.W.nsIn K mainGlobals "union_of" = some (some (.ref f13))) (l13 : K.lookup f13 = some ⟨oc13, od13, .func (PySem.W.fnOf "union_of" "union_of" (defArgs sUnionOf) (defBody sUnionOf) (defScope sUnionOf) .none kV13 dc13 pm13 an13 cd13 ct13), sl13⟩) (c13 : PySem.W.codeIn K cd13 "union_of" = true) (k13 : PySem.W.keepIn K (.ref f13) = true)
    (a14 : PySem.W.nsIn K mainGlobals "box" = some (some (.ref f14))) (l14 : K.lookup f14 = some ⟨oc14, od14, .func (PySem.W.fnOf "box" "box" (defArgs sBox) (defBody sBox) (defScope sBox) .none kV14 dc14 pm14 an14 cd14 ct14), sl14⟩) (c14 : PySem.W.codeIn K cd14 "box" = true) (k14 : PySem.W.keepIn K (.ref f14) = true)
    (a15 : PySem.W.nsIn K mainGlobals "do_meet" = some (some (.ref f15))) (l15 : K.lookup f15 = some ⟨oc15, od15, .func (PySem.W.fnOf "do_meet" "do_meet" (defArgs sDoMeet) (defBody sDoMeet) (defScope sDoMeet) .none kV15 dc15 pm15 an15 cd15 ct15), sl15⟩) (c15 : PySem.W.codeIn K cd15 "do_meet" = true) (k15 : PySem.W.keepIn K (.ref f15) = true)
    (a16 : PySem.W.nsIn K mainGlobals "boxes_of" = some (some (.ref f16))) (l16 : K.lookup f16 = some ⟨oc16, od16, .func (PySem.W.fnOf "boxes_of" "boxes_of" (defArgs sBoxesOf) (defBody sBoxesOf) (defScope sBoxesOf) .none kV16 dc16 pm16 an16 cd16 ct16), sl16⟩) (c16 : PySem.W.codeIn K cd16 "boxes_of" = true) (k16 : PySem.W.keepIn K (.ref f16) = true)
    (a17 : PySem.W.nsIn K mainGlobals "of_boxes" = some (some (.ref f17))) (l17 : K.lookup f17 = some ⟨oc17, od17, .func (PySem.W.fnOf "of_boxes" "of_boxes" (defArgs sOfBoxes) (defBody sOfBoxes) (defScope sOfBoxes) .none kV17 dc17 pm17 an17 cd17 ct17), sl17⟩) (c17 : PySem.W.codeIn K cd17 "of_boxes" = true) (k17 : PySem.W.keepIn K (.ref f17) = true)
    (a18 : PySem.W.nsIn K mainGlobals "volume" = some (some (.ref f18))) (l18 : K.lookup f18 = some ⟨oc18, od18, .func (PySem.W.fnOf "volume" "volume" (defArgs sVolume) (defBody sVolume) (defScope sVolume) .none kV18 dc18 pm18 an18 cd18 ct18), sl18⟩) (c18 : PySem.W.codeIn K cd18 "volume" = true) (k18 : PySem.W.keepIn K (.ref f18) = true)
    (a19 : PySem.W.nsIn K mainGlobals "moved" = some (some (.ref f19))) (l19 : K.lookup f19 = some ⟨oc19, od19, .func (PySem.W.fnOf "moved" "moved" (defArgs sMoved) (defBody sMoved) (defScope sMoved) .none kV19 dc19 pm19 an19 cd19 ct19), sl19⟩) (c19 : PySem.W.codeIn K cd19 "moved" = true) (k19 : PySem.W.keepIn K (.ref f19) = true)
    (a20 : PySem.W.nsIn K mainGlobals "swept" = some (some (.ref f20))) (l20 : K.lookup f20 = some ⟨oc20, od20, .func (PySem.W.fnOf "swept" "swept" (defArgs sSwept) (defBody sSwept) (defScope sSwept) .none kV20 dc20 pm20 an20 cd20 ct20), sl20⟩) (c20 : PySem.W.codeIn K cd20 "swept" = true) (k20 : PySem.W.keepIn K (.ref f20) = true)
    (a21 : PySem.W.nsIn K mainGlobals "barred" = some (some (.ref f21))) (l21 : K.lookup f21 = some ⟨oc21, od21, .func (PySem.W.fnOf "barred" "barred" (defArgs sBarred) (defBody sBarred) (defScope sBarred) .none kV21 dc21 pm21 an21 cd21 ct21), sl21⟩) (c21 : PySem.W.codeIn K cd21 "barred" = true) (k21 : PySem.W.keepIn K (.ref f21) = true)
    (a22 : PySem.W.nsIn K mainGlobals "neighbours" = some (some (.ref f22))) (l22 : K.lookup f22 = some ⟨oc22, od22, .func (PySem.W.fnOf "neighbours" "neighbours" (defArgs sNeigh) (defBody sNeigh) (defScope sNeigh) .none kV22 dc22 pm22 an22 cd22 ct22), sl22⟩) (c22 : PySem.W.codeIn K cd22 "neighbours" = true) (k22 : PySem.W.keepIn K (.ref f22) = true)
    (a23 : PySem.W.nsIn K mainGlobals "_law_cell_at" = some (some (.ref f23))) (l23 : K.lookup f23 = some ⟨oc23, od23, .func (PySem.W.fnOf "_law_cell_at" "_law_cell_at" (defArgs sCellAt) (defBody sCellAt) (defScope sCellAt) .none kV23 dc23 pm23 an23 cd23 ct23), sl23⟩) (c23 : PySem.W.codeIn K cd23 "_law_cell_at" = true) (k23 : PySem.W.keepIn K (.ref f23) = true)
    (a24 : PySem.W.nsIn K mainGlobals "_law_draw" = some (some (.ref f24))) (l24 : K.lookup f24 = some ⟨oc24, od24, .func (PySem.W.fnOf "_law_draw" "_law_draw" (defArgs sDraw) (defBody sDraw) (defScope sDraw) .none kV24 dc24 pm24 an24 cd24 ct24), sl24⟩) (c24 : PySem.W.codeIn K cd24 "_law_draw" = true) (k24 : PySem.W.keepIn K (.ref f24) = true)
    (a25 : PySem.W.nsIn K mainGlobals "_law_number" = some (some (.ref f25))) (l25 : K.lookup f25 = some ⟨oc25, od25, .func (PySem.W.fnOf "_law_number" "_law_number" (defArgs sNumber) (defBody sNumber) (defScope sNumber) .none kV25 dc25 pm25 an25 cd25 ct25), sl25⟩) (c25 : PySem.W.codeIn K cd25 "_law_number" = true) (k25 : PySem.W.keepIn K (.ref f25) = true)
    (a26 : PySem.W.nsIn K mainGlobals "_law_next" = some (some (.ref f26))) (l26 : K.lookup f26 = some ⟨oc26, od26, .func (PySem.W.fnOf "_law_next" "_law_next" (defArgs sNext) (defBody sNext) (defScope sNext) .none kV26 dc26 pm26 an26 cd26 ct26), sl26⟩) (c26 : PySem.W.codeIn K cd26 "_law_next" = true) (k26 : PySem.W.keepIn K (.ref f26) = true)
    (a27 : PySem.W.nsIn K mainGlobals "_law_boxes" = some (some (.ref f27))) (l27 : K.lookup f27 = some ⟨oc27, od27, .func (PySem.W.fnOf "_law_boxes" "_law_boxes" (defArgs sLBoxes) (defBody sLBoxes) (defScope sLBoxes) .none kV27 dc27 pm27 an27 cd27 ct27), sl27⟩) (c27 : PySem.W.codeIn K cd27 "_law_boxes" = true) (k27 : PySem.W.keepIn K (.ref f27) = true)
    (a28 : PySem.W.nsIn K mainGlobals "_law_cells" = some (some (.ref f28))) (l28 : K.lookup f28 = some ⟨oc28, od28, .func (PySem.W.fnOf "_law_cells" "_law_cells" (defArgs sLCells) (defBody sLCells) (defScope sLCells) .none kV28 dc28 pm28 an28 cd28 ct28), sl28⟩) (c28 : PySem.W.codeIn K cd28 "_law_cells" = true) (k28 : PySem.W.keepIn K (.ref f28) = true)
    (a29 : PySem.W.nsIn K mainGlobals "_law_solid" = some (some (.ref f29))) (l29 : K.lookup f29 = some ⟨oc29, od29, .func (PySem.W.fnOf "_law_solid" "_law_solid" (defArgs sLSolid) (defBody sLSolid) (defScope sLSolid) .none kV29 dc29 pm29 an29 cd29 ct29), sl29⟩) (c29 : PySem.W.codeIn K cd29 "_law_solid" = true) (k29 : PySem.W.keepIn K (.ref f29) = true)
    (a30 : PySem.W.nsIn K mainGlobals "_law_is" = some (some (.ref f30))) (l30 : K.lookup f30 = some ⟨oc30, od30, .func (PySem.W.fnOf "_law_is" "_law_is" (defArgs sLIs) (defBody sLIs) (defScope sLIs) .none kV30 dc30 pm30 an30 cd30 ct30), sl30⟩) (c30 : PySem.W.codeIn K cd30 "_law_is" = true) (k30 : PySem.W.keepIn K (.ref f30) = true)
    (a31 : PySem.W.nsIn K mainGlobals "_law_by" = some (some (.ref f31))) (l31 : K.lookup f31 = some ⟨oc31, od31, .func (PySem.W.fnOf "_law_by" "_law_by" (defArgs sLBy) (defBody sLBy) (defScope sLBy) .none kV31 dc31 pm31 an31 cd31 ct31), sl31⟩) (c31 : PySem.W.codeIn K cd31 "_law_by" = true) (k31 : PySem.W.keepIn K (.ref f31) = true)
    (a32 : PySem.W.nsIn K mainGlobals "law" = some (some (.ref f32))) (l32 : K.lookup f32 = some ⟨oc32, od32, .func (PySem.W.fnOf "law" "law" (defArgs sLaw) (defBody sLaw) (defScope sLaw) .none kV32 dc32 pm32 an32 cd32 ct32), sl32⟩) (c32 : PySem.W.codeIn K cd32 "law" = true) (k32 : PySem.W.keepIn K (.ref f32) = true)
    (z1 : PySem.W.nsIn K mainGlobals "len" = some none)
    (z2 : PySem.W.nsIn K mainGlobals "isinstance" = some none)
    (z3 : PySem.W.nsIn K mainGlobals "tuple" = some none)
    (z4 : PySem.W.nsIn K mainGlobals "int" = some none)
    (z5 : PySem.W.nsIn K mainGlobals "bool" = some none)
    (z6 : PySem.W.nsIn K mainGlobals "all" = some none)
    (z7 : PySem.W.nsIn K mainGlobals "zip" = some none)
    (z8 : PySem.W.nsIn K mainGlobals "sorted" = some none)
    (z9 : PySem.W.nsIn K mainGlobals "list" = some none)
    (z10 : PySem.W.nsIn K mainGlobals "range" = some none)
    (z11 : PySem.W.nsIn K mainGlobals "dict" = some none)
    (z12 : PySem.W.nsIn K mainGlobals "enumerate" = some none)
    (aA : PySem.W.nsIn K mainGlobals "AXES" = some (some (.ref ax))) (lA : K.lookup ax = some ⟨.type "tuple", odA, .seq #[.int 0 tA, .int 1 tB, .int 2 tC] nA, slA⟩) :
    ∃ fd : FuncData, (∀ (s : Shared) (v : Value), BindsTo s fd ⟨[v], []⟩ [("_law_script", v)]) ∧ ∀ base : Heap, K.In base → base.Ns mainGlobals mg → FnOk l.prog w K mg base CX0 10 fa fd ["_law_script"] (spLaw K) := by
  have e := hfa.symm.trans (PySem.W.mg_of X G a32)
  cases e
  have T : Txt K mg ax := ⟨PySem.W.mg_none_of X G z1, PySem.W.mg_none_of X G z2, PySem.W.mg_none_of X G z3, PySem.W.mg_none_of X G z4, PySem.W.mg_none_of X G z5, PySem.W.mg_none_of X G z6, PySem.W.mg_none_of X G z7, PySem.W.mg_none_of X G z8, PySem.W.mg_none_of X G z9, PySem.W.mg_none_of X G z10, PySem.W.mg_none_of X G z11, PySem.W.mg_none_of X G z12, PySem.W.mg_of X G aA, fun H => .inr ⟨_, _, _, lA, rfl, rfl, (show 3 ≤ sizeLine by decide), .cons ⟨_, rfl⟩ (.cons ⟨_, rfl⟩ (.cons ⟨_, rfl⟩ .nil))⟩⟩
  have F1 := fun_mk (st := sIsNumber) l1 c1 k1
  have b1 := F1.binds (ps := ["thing"]) fun _ _ _ _ _ _ us hl => match us, hl with | [_], _ => rfl
  have g1 := PySem.W.mg_of X G a1
  have F2 := fun_mk (st := sIsRow) l2 c2 k2
  have b2 := F2.binds (ps := ["thing"]) fun _ _ _ _ _ _ us hl => match us, hl with | [_], _ => rfl
  have g2 := PySem.W.mg_of X G a2
  have F3 := fun_mk (st := sAreStr) l3 c3 k3
  have b3 := F3.binds (ps := ["thing", "is_inside"]) fun _ _ _ _ _ _ us hl => match us, hl with | [_, _], _ => rfl
  have g3 := PySem.W.mg_of X G a3
  have F4 := fun_mk (st := sIsLayer) l4 c4 k4
  have b4 := F4.binds (ps := ["thing"]) fun _ _ _ _ _ _ us hl => match us, hl with | [_], _ => rfl
  have g4 := PySem.W.mg_of X G a4
  have F5 := fun_mk (st := sIsSolid) l5 c5 k5
  have b5 := F5.binds (ps := ["thing"]) fun _ _ _ _ _ _ us hl => match us, hl with | [_], _ => rfl
  have g5 := PySem.W.mg_of X G a5
  have F6 := fun_mk (st := sIsKept) l6 c6 k6
  have b6 := F6.binds (ps := ["word", "is_in", "is_other"]) fun _ _ _ _ _ _ us hl => match us, hl with | [_, _, _], _ => rfl
  have g6 := PySem.W.mg_of X G a6
  have F7 := fun_mk (st := sEndsOf) l7 c7 k7
  have b7 := F7.binds (ps := ["one", "other"]) fun _ _ _ _ _ _ us hl => match us, hl with | [_, _], _ => rfl
  have g7 := PySem.W.mg_of X G a7
  have F8 := fun_mk (st := sRows) l8 c8 k8
  have b8 := F8.binds (ps := ["one", "other", "word"]) fun _ _ _ _ _ _ us hl => match us, hl with | [_, _, _], _ => rfl
  have g8 := PySem.W.mg_of X G a8
  have F9 := fun_mk (st := sStr) l9 c9 k9
  have b9 := F9.binds (ps := ["one", "other", "word", "inner"]) fun _ _ _ _ _ _ us hl => match us, hl with | [_, _, _, _], _ => rfl
  have g9 := PySem.W.mg_of X G a9
  have F10 := fun_mk (st := sLayers) l10 c10 k10
  have b10 := F10.binds (ps := ["one", "other", "word"]) fun _ _ _ _ _ _ us hl => match us, hl with | [_, _, _], _ => rfl
  have g10 := PySem.W.mg_of X G a10
  have F11 := fun_mk (st := sUnion) l11 c11 k11
  have b11 := F11.binds (ps := ["one", "other"]) fun _ _ _ _ _ _ us hl => match us, hl with | [_, _], _ => rfl
  have g11 := PySem.W.mg_of X G a11
  have F12 := fun_mk (st := sMeet) l12 c12 k12
  have b12 := F12.binds (ps := ["one", "other"]) fun _ _ _ _ _ _ us hl => match us, hl with | [_, _], _ => rfl
  have g12 := PySem.W.mg_of X G a12
  have F13 := fun_mk (st := sUnionOf) l13 c13 k13
  have b13 := F13.binds (ps := ["solids"]) fun _ _ _ _ _ _ us hl => match us, hl with | [_], _ => rfl
  have g13 := PySem.W.mg_of X G a13
  have F14 := fun_mk (st := sBox) l14 c14 k14
  have b14 := F14.binds (ps := ["corner", "other"]) fun _ _ _ _ _ _ us hl => match us, hl with | [_, _], _ => rfl
  have g14 := PySem.W.mg_of X G a14
  have F15 := fun_mk (st := sDoMeet) l15 c15 k15
  have b15 := F15.binds (ps := ["one", "other"]) fun _ _ _ _ _ _ us hl => match us, hl with | [_, _], _ => rfl
  have g15 := PySem.W.mg_of X G a15
  have F16 := fun_mk (st := sBoxesOf) l16 c16 k16
  have b16 := F16.binds (ps := ["solid"]) fun _ _ _ _ _ _ us hl => match us, hl with | [_], _ => rfl
  have g16 := PySem.W.mg_of X G a16
  have F17 := fun_mk (st := sOfBoxes) l17 c17 k17
  have b17 := F17.binds (ps := ["boxes"]) fun _ _ _ _ _ _ us hl => match us, hl with | [_], _ => rfl
  have g17 := PySem.W.mg_of X G a17
  have F18 := fun_mk (st := sVolume) l18 c18 k18
  have b18 := F18.binds (ps := ["solid"]) fun _ _ _ _ _ _ us hl => match us, hl with | [_], _ => rfl
  have g18 := PySem.W.mg_of X G a18
  have F19 := fun_mk (st := sMoved) l19 c19 k19
  have b19 := F19.binds (ps := ["solid", "by"]) fun _ _ _ _ _ _ us hl => match us, hl with | [_, _], _ => rfl
  have g19 := PySem.W.mg_of X G a19
  have F20 := fun_mk (st := sSwept) l20 c20 k20
  have b20 := F20.binds (ps := ["lot", "tool"]) fun _ _ _ _ _ _ us hl => match us, hl with | [_, _], _ => rfl
  have g20 := PySem.W.mg_of X G a20
  have F21 := fun_mk (st := sBarred) l21 c21 k21
  have b21 := F21.binds (ps := ["tool", "solid"]) fun _ _ _ _ _ _ us hl => match us, hl with | [_, _], _ => rfl
  have g21 := PySem.W.mg_of X G a21
  have F22 := fun_mk (st := sNeigh) l22 c22 k22
  have b22 := F22.binds (ps := ["lot"]) fun _ _ _ _ _ _ us hl => match us, hl with | [_], _ => rfl
  have g22 := PySem.W.mg_of X G a22
  have F23 := fun_mk (st := sCellAt) l23 c23 k23
  have b23 := F23.binds (ps := ["_law_script", "_law_k"]) fun _ _ _ _ _ _ us hl => match us, hl with | [_, _], _ => rfl
  have g23 := PySem.W.mg_of X G a23
  have F24 := fun_mk (st := sDraw) l24 c24 k24
  have b24 := F24.binds (ps := ["_law_cell", "_law_k", "_law_bound"]) fun _ _ _ _ _ _ us hl => match us, hl with | [_, _, _], _ => rfl
  have g24 := PySem.W.mg_of X G a24
  have F25 := fun_mk (st := sNumber) l25 c25 k25
  have b25 := F25.binds (ps := ["_law_cell", "_law_k", "_law_bound"]) fun _ _ _ _ _ _ us hl => match us, hl with | [_, _, _], _ => rfl
  have g25 := PySem.W.mg_of X G a25
  have F26 := fun_mk (st := sNext) l26 c26 k26
  have b26 := F26.binds (ps := ["_law_draw_here", "_law_bound"]) fun _ _ _ _ _ _ us hl => match us, hl with | [_, _], _ => rfl
  have g26 := PySem.W.mg_of X G a26
  have F27 := fun_mk (st := sLBoxes) l27 c27 k27
  have b27 := F27.binds (ps := ["_law_draw_here", "_law_many", "_law_wide"]) fun _ _ _ _ _ _ us hl => match us, hl with | [_, _, _], _ => rfl
  have g27 := PySem.W.mg_of X G a27
  have F28 := fun_mk (st := sLCells) l28 c28 k28
  have b28 := F28.binds (ps := ["_law_boxes_here"]) fun _ _ _ _ _ _ us hl => match us, hl with | [_], _ => rfl
  have g28 := PySem.W.mg_of X G a28
  have F29 := fun_mk (st := sLSolid) l29 c29 k29
  have b29 := F29.binds (ps := ["_law_boxes_here"]) fun _ _ _ _ _ _ us hl => match us, hl with | [_], _ => rfl
  have g29 := PySem.W.mg_of X G a29
  have F30 := fun_mk (st := sLIs) l30 c30 k30
  have b30 := F30.binds (ps := ["_law_solid_here", "_law_cells_here"]) fun _ _ _ _ _ _ us hl => match us, hl with | [_, _], _ => rfl
  have g30 := PySem.W.mg_of X G a30
  have F31 := fun_mk (st := sLBy) l31 c31 k31
  have b31 := F31.binds (ps := ["_law_point", "_law_other", "_law_sign"]) fun _ _ _ _ _ _ us hl => match us, hl with | [_, _, _], _ => rfl
  have g31 := PySem.W.mg_of X G a31
  have F32 := fun_mk (st := sLaw) l32 c32 k32
  have E0 : Defs K mg _ _ _ _ _ _ _ _ _ _ := ⟨F7, b7, g7, F6, b6, g6, F8, b8, g8, F9, b9, g9, F10, b10, g10⟩
  have BD : BDefs K mg _ _ _ _ _ _ _ _ _ _ := ⟨F11, b11, g11, F13, b13, g13, F14, b14, g14, F16, b16, g16, F17, b17, g17⟩
  have ID : IDefs K mg _ _ _ _ _ _ _ _ := ⟨F1, b1, g1, F2, b2, g2, F3, b3, g3, F4, b4, g4⟩
  have SD : SDefs K mg _ _ _ _ _ _ _ _ := ⟨F5, b5, g5, F28, b28, g28, F16, b16, g16, F18, b18, g18⟩
  have DD : DDefs K mg _ _ _ _ _ _ _ _ := ⟨F24, b24, g24, F23, b23, g23, F25, b25, g25, F26, b26, g26⟩
  have AD : LDefs K mg _ _ _ _ _ _ _ _ _ _ _ _ _ _ _ _ _ _ _ _ := ⟨F27, b27, g27, F29, b29, g29, F30, b30, g30, F31, b31, g31, F20, b20, g20, F21, b21, g21, F22, b22, g22, F19, b19, g19, F15, b15, g15, F12, b12, g12⟩
  exact ⟨PySem.W.fnOf "law" "law" (defArgs sLaw) (defBody sLaw) (defScope sLaw) .none kV32 dc32 pm32 an32 cd32 ct32, fun s v => .of_eq rfl, fun base _ _ => ok_law F32 AD DD SD ID BD E0 T⟩
end K4
/-! D2_End: the law's head (printed by gen19.py). -/
open PySem PySem.W PyProof.Rows
set_option maxRecDepth 100000 in
set_option maxHeartbeats 0 in
theorem PySem.Challenge.cw_shopwhole_k04_whole_standings_holds : PySem.Challenge.rw_shopwhole_k04_whole_standings.Holds := by
  w_on; o_law; k_head; (case hw => w_witness2)
  k_fill
  refine L2.walk_of (l := PySem.Challenge.rw_shopwhole_k04_whole_standings) (n := 63) (k := 10) (x := "_law_script") (CX := fun _ => L2.CX0) (sp := fun w => K4.spLaw _) rfl (by decide) rfl ⟨rfl, by decide, by decide⟩ (fun w h Y => PySem.W.kIn_of Y) ?F (fun _ _ a ns hl _ hS => ⟨a, ns, rfl, hS, fun _ => rfl⟩) (fun _ _ _ _ _ h => h)
  case F =>
    intro w mg fa h KX G hmg
    refine' K4.all_mk KX G hmg ?a1 ?l1 ?c1 ?k1 ?a2 ?l2 ?c2 ?k2 ?a3 ?l3 ?c3 ?k3 ?a4 ?l4 ?c4 ?k4 ?a5 ?l5 ?c5 ?k5 ?a6 ?l6 ?c6 ?k6 ?a7 ?l7 ?c7 ?k7 ?a8 ?l8 ?c8 ?k8 ?a9 ?l9 ?c9 ?k9 ?a10 ?l10 ?c10 ?k10 ?a11 ?l11 ?c11 ?k11 ?a12 ?l12 ?c12 ?k12 ?a13 ?l13 ?c13 ?k13 ?a14 ?l14 ?c14 ?k14 ?a15 ?l15 ?c15 ?k15 ?a16 ?l16 ?c16 ?k16 ?a17 ?l17 ?c17 ?k17 ?a18 ?l18 ?c18 ?k18 ?a19 ?l19 ?c19 ?k19 ?a20 ?l20 ?c20 ?k20 ?a21 ?l21 ?c21 ?k21 ?a22 ?l22 ?c22 ?k22 ?a23 ?l23 ?c23 ?k23 ?a24 ?l24 ?c24 ?k24 ?a25 ?l25 ?c25 ?k25 ?a26 ?l26 ?c26 ?k26 ?a27 ?l27 ?c27 ?k27 ?a28 ?l28 ?c28 ?k28 ?a29 ?l29 ?c29 ?k29 ?a30 ?l30 ?c30 ?k30 ?a31 ?l31 ?c31 ?k31 ?a32 ?l32 ?c32 ?k32 ?z1 ?z2 ?z3 ?z4 ?z5 ?z6 ?z7 ?z8 ?z9 ?z10 ?z11 ?z12 ?aA ?lA
    (case a1 => k_is)
    (case l1 => k_is)
    (case c1 => k_is)
    (case k1 => k_is)
    (case a2 => k_is)
    (case l2 => k_is)
    (case c2 => k_is)
    (case k2 => k_is)
    (case a3 => k_is)
    (case l3 => k_is)
    (case c3 => k_is)
    (case k3 => k_is)
    (case a4 => k_is)
    (case l4 => k_is)
    (case c4 => k_is)
    (case k4 => k_is)
    (case a5 => k_is)
    (case l5 => k_is)
    (case c5 => k_is)
    (case k5 => k_is)
    (case a6 => k_is)
    (case l6 => k_is)
    (case c6 => k_is)
    (case k6 => k_is)
    (case a7 => k_is)
    (case l7 => k_is)
    (case c7 => k_is)
    (case k7 => k_is)
    (case a8 => k_is)
    (case l8 => k_is)
    (case c8 => k_is)
    (case k8 => k_is)
    (case a9 => k_is)
    (case l9 => k_is)
    (case c9 => k_is)
    (case k9 => k_is)
    (case a10 => k_is)
    (case l10 => k_is)
    (case c10 => k_is)
    (case k10 => k_is)
    (case a11 => k_is)
    (case l11 => k_is)
    (case c11 => k_is)
    (case k11 => k_is)
    (case a12 => k_is)
    (case l12 => k_is)
    (case c12 => k_is)
    (case k12 => k_is)
    (case a13 => k_is)
    (case l13 => k_is)
    (case c13 => k_is)
    (case k13 => k_is)
    (case a14 => k_is)
    (case l14 => k_is)
    (case c14 => k_is)
    (case k14 => k_is)
    (case a15 => k_is)
    (case l15 => k_is)
    (case c15 => k_is)
    (case k15 => k_is)
    (case a16 => k_is)
    (case l16 => k_is)
    (case c16 => k_is)
    (case k16 => k_is)
    (case a17 => k_is)
    (case l17 => k_is)
    (case c17 => k_is)
    (case k17 => k_is)
    (case a18 => k_is)
    (case l18 => k_is)
    (case c18 => k_is)
    (case k18 => k_is)
    (case a19 => k_is)
    (case l19 => k_is)
    (case c19 => k_is)
    (case k19 => k_is)
    (case a20 => k_is)
    (case l20 => k_is)
    (case c20 => k_is)
    (case k20 => k_is)
    (case a21 => k_is)
    (case l21 => k_is)
    (case c21 => k_is)
    (case k21 => k_is)
    (case a22 => k_is)
    (case l22 => k_is)
    (case c22 => k_is)
    (case k22 => k_is)
    (case a23 => k_is)
    (case l23 => k_is)
    (case c23 => k_is)
    (case k23 => k_is)
    (case a24 => k_is)
    (case l24 => k_is)
    (case c24 => k_is)
    (case k24 => k_is)
    (case a25 => k_is)
    (case l25 => k_is)
    (case c25 => k_is)
    (case k25 => k_is)
    (case a26 => k_is)
    (case l26 => k_is)
    (case c26 => k_is)
    (case k26 => k_is)
    (case a27 => k_is)
    (case l27 => k_is)
    (case c27 => k_is)
    (case k27 => k_is)
    (case a28 => k_is)
    (case l28 => k_is)
    (case c28 => k_is)
    (case k28 => k_is)
    (case a29 => k_is)
    (case l29 => k_is)
    (case c29 => k_is)
    (case k29 => k_is)
    (case a30 => k_is)
    (case l30 => k_is)
    (case c30 => k_is)
    (case k30 => k_is)
    (case a31 => k_is)
    (case l31 => k_is)
    (case c31 => k_is)
    (case k31 => k_is)
    (case a32 => k_is)
    (case l32 => k_is)
    (case c32 => k_is)
    (case k32 => k_is)
    (case z1 => k_is)
    (case z2 => k_is)
    (case z3 => k_is)
    (case z4 => k_is)
    (case z5 => k_is)
    (case z6 => k_is)
    (case z7 => k_is)
    (case z8 => k_is)
    (case z9 => k_is)
    (case z10 => k_is)
    (case z11 => k_is)
    (case z12 => k_is)
    (case aA => k_is)
    (case lA => k_is)
#print axioms PySem.Challenge.cw_shopwhole_k04_whole_standings_holds
