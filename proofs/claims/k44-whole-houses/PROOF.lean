import PyProof.Rows.All
import Wide.All
import OpenK.AllK
import Wide.FinOn
import HandS.Base
import HandS.Comp
import HandS.Exc
import HandS.ExcOwn
import HandS.ExcInit
import HandS.ExcCtx
import HandS.HotCalls
import HandS.Words
import HandS.WordsExc
import HandS.ForMost
import HandS.ExcField
import HandS.IsInst
import HandS.DictComp
import HandS.DeepEq
import HandS.Deep
import HandS.SortOrd
import HandS.SortRule
import HandS.Zip
import HandS.More
import HandS.Star
import HandS.Codes
import HandS.Ends
import KE.LtSeq
import KE.KSortTupG
import PyProof.Rows.SortShellAny
import KE.KDictSum
import KE.KExcIs
import PyProof.ReprRoads
import HandS.Spec
import PySem.Challenge.RW_suffixhouse_k44_whole_houses_under_chang
set_option Elab.async false
set_option linter.all false
section
open PySem PySem.W PyProof.Rows
set_option maxRecDepth 100000
set_option maxHeartbeats 0
open_top hd for PySem.Challenge.rw_suffixhouse_k44_whole_houses_under_chang
end
section
set_option linter.all false
/-! The words of a house: stretches (Fac), the longest words of the classes (Can), and how both grow by a letter. Plain Lean. -/
namespace Sfx
abbrev W := List Nat

theorem suf_antisymm {x y : W} (h : x <:+ y) (g : y <:+ x) : x = y :=
  h.eq_of_length (Nat.le_antisymm h.length_le g.length_le)
theorem suf_cons {x z : W} (h : x <:+ z) (hne : x ≠ z) : ∃ a, a :: x <:+ z := by
  obtain ⟨u, rfl⟩ := h
  rcases List.eq_nil_or_concat u with e | ⟨v, a, e⟩
  · subst e; exact absurd rfl hne
  · subst e; exact ⟨a, v, by simp⟩
theorem suf_concat {x y : W} {c : Nat} (h : x <:+ y) : x ++ [c] <:+ y ++ [c] := by
  obtain ⟨u, rfl⟩ := h; exact ⟨u, by simp⟩
theorem of_suf_concat {x y : W} {c d : Nat} (h : x ++ [c] <:+ y ++ [d]) : c = d ∧ x <:+ y := by
  rcases List.suffix_concat_iff.mp h with e | ⟨t, e, ht⟩
  · simp at e
  · obtain ⟨e1, e2⟩ := List.append_inj' e rfl
    cases e2
    exact ⟨rfl, e1 ▸ ht⟩
theorem suf_len_eq {x y z : W} (h : x <:+ z) (g : y <:+ z) (e : x.length = y.length) : x = y :=
  (List.suffix_of_suffix_length_le h g (Nat.le_of_eq e)).eq_of_length e
theorem suf_cmp {x y z : W} (h : x <:+ z) (g : y <:+ z) (e : x.length ≤ y.length) : x <:+ y := List.suffix_of_suffix_length_le h g e
theorem suf_len_lt {x y : W} (h : x <:+ y) (ne : x ≠ y) : x.length < y.length := by
  rcases Nat.lt_or_ge x.length y.length with q | q
  · exact q
  · exact absurd (h.eq_of_length (Nat.le_antisymm h.length_le q)) ne
theorem take_concat {t : W} {e : Nat} (h0 : 0 < e) (he : e ≤ t.length) : ∃ d, t.take e = t.take (e - 1) ++ [d] ∧ t[e - 1]? = some d := by
  obtain ⟨k, rfl⟩ : ∃ k, e = k + 1 := ⟨e - 1, by omega⟩
  have hk : k < t.length := by omega
  refine ⟨t[k], ?_, by simp [hk]⟩
  rw [Nat.add_sub_cancel, List.take_add_one]
  simp [hk]

/-- w ends at e in t -/
def Occ (w t : W) (e : Nat) : Prop := e ≤ t.length ∧ w <:+ t.take e
def Fac (D : List W) (w : W) : Prop := ∃ t ∈ D, ∃ e, Occ w t e
def Can (D : List W) (w : W) : Prop := w = [] ∨ (∃ t ∈ D, w <+: t) ∨ ∃ a b, a ≠ b ∧ Fac D (a :: w) ∧ Fac D (b :: w)
/-- y is the shortest word of S with the end x -/
def Ext (S : W → Prop) (x y : W) : Prop := S y ∧ x <:+ y ∧ ∀ z, S z → x <:+ z → y <:+ z

theorem Ext.uniq {S : W → Prop} {x y z : W} (h : Ext S x y) (g : Ext S x z) : y = z :=
  suf_antisymm (h.2.2 z g.1 g.2.1) (g.2.2 y h.1 h.2.1)
theorem Ext.self {S : W → Prop} {x : W} (h : S x) : Ext S x x := ⟨h, List.suffix_refl _, fun _ _ q => q⟩

theorem Fac.suf {D : List W} {x y : W} (h : Fac D y) (s : x <:+ y) : Fac D x := by
  obtain ⟨t, ht, e, he, hs⟩ := h
  exact ⟨t, ht, e, he, s.trans hs⟩
theorem Fac.init {D : List W} {x : W} {c : Nat} (h : Fac D (x ++ [c])) : Fac D x := by
  obtain ⟨t, ht, e, he, hs⟩ := h
  have h0 : 0 < e := by
    rcases Nat.eq_zero_or_pos e with z | z
    · subst z; have := hs.length_le; simp at this
    · exact z
  obtain ⟨d, ed, _⟩ := take_concat h0 he
  rw [ed] at hs
  exact ⟨t, ht, e - 1, by omega, (of_suf_concat hs).2⟩
theorem Fac.len {D : List W} {x : W} (h : Fac D x) : ∃ t ∈ D, x.length ≤ t.length := by
  obtain ⟨t, ht, e, he, hs⟩ := h
  exact ⟨t, ht, Nat.le_trans hs.length_le (by rw [List.length_take]; omega)⟩
theorem Fac.ofPre {D : List W} {x t : W} (ht : t ∈ D) (h : x <+: t) : Fac D x :=
  ⟨t, ht, x.length, h.length_le, by rw [← List.prefix_iff_eq_take.mp h]; exact List.suffix_refl _⟩
theorem Can.fac {D : List W} {x : W} (h0 : D ≠ []) (h : Can D x) : Fac D x := by
  rcases h with e | ⟨t, ht, hp⟩ | ⟨a, b, _, h, _⟩
  · subst e
    cases D with
    | nil => exact absurd rfl h0
    | cons t r => exact ⟨t, List.mem_cons_self, 0, Nat.zero_le _, by simp⟩
  · exact Fac.ofPre ht hp
  · exact h.suf (List.suffix_cons _ _)
/-- wherever x ends, y ends -/
def Goes (D : List W) (x y : W) : Prop := ∀ t ∈ D, ∀ e, Occ x t e → Occ y t e
theorem goes_ext {D : List W} {x y z : W} (h0 : D ≠ []) (g : Goes D x y) (hz : Can D z) (hx : x <:+ z) : y <:+ z := by
  rcases hz with e | ⟨t, ht, hp⟩ | ⟨a, b, hab, ha, hb⟩
  · subst e
    cases D with
    | nil => exact absurd rfl h0
    | cons t r =>
      have q := g t List.mem_cons_self 0 ⟨Nat.zero_le _, by simpa using hx⟩
      simpa using q.2
  · have e : t.take z.length = z := (List.prefix_iff_eq_take.mp hp).symm
    have q := g t ht z.length ⟨hp.length_le, by rw [e]; exact hx⟩
    have q2 := q.2
    rw [e] at q2
    exact q2
  · obtain ⟨t, ht, e, he, hs⟩ := ha
    obtain ⟨t2, ht2, e2, he2, hs2⟩ := hb
    have q1 := (g t ht e ⟨he, (hx.trans (List.suffix_cons a z)).trans hs⟩).2
    have q2 := (g t2 ht2 e2 ⟨he2, (hx.trans (List.suffix_cons b z)).trans hs2⟩).2
    rcases Nat.lt_or_ge z.length y.length with l | l
    · have r1 : a :: z <:+ y := suf_cmp hs q1 l
      have r2 : b :: z <:+ y := suf_cmp hs2 q2 l
      have := suf_len_eq r1 r2 (by simp)
      simp at this
      exact absurd this hab
    · exact suf_cmp q1 ((List.suffix_cons a z).trans hs) l
theorem goes_ex {D : List W} : ∀ (n : Nat) (x : W), (∀ t ∈ D, t.length < x.length + n) → Fac D x → ∃ y, Can D y ∧ x <:+ y ∧ Goes D x y
  | 0, x, hb, hf => by
    obtain ⟨t, ht, hl⟩ := hf.len
    have := hb t ht
    omega
  | n + 1, x, hb, hf => by
    by_cases hc : Can D x
    · exact ⟨x, hc, List.suffix_refl _, fun _ _ _ q => q⟩
    · have key : ∀ t ∈ D, ∀ e, Occ x t e → ∃ a, a :: x <:+ t.take e := fun t ht e o =>
        suf_cons o.2 fun q => hc (.inr (.inl ⟨t, ht, by rw [q]; exact List.take_prefix _ _⟩))
      obtain ⟨t, ht, e, ho⟩ := id hf
      obtain ⟨a, ha⟩ := key t ht e ho
      obtain ⟨y, y1, y2, y3⟩ := goes_ex n (a :: x) (fun t ht => by have := hb t ht; simp; omega) ⟨t, ht, e, ho.1, ha⟩
      refine ⟨y, y1, (List.suffix_cons a x).trans y2, fun t2 ht2 e2 o2 => ?_⟩
      obtain ⟨b, hb2⟩ := key t2 ht2 e2 o2
      have hab : a = b := by
        by_cases q : a = b
        · exact q
        · exact absurd (.inr (.inr ⟨a, b, q, ⟨t, ht, e, ho.1, ha⟩, ⟨t2, ht2, e2, o2.1, hb2⟩⟩)) hc
      subst hab
      exact y3 t2 ht2 e2 ⟨o2.1, hb2⟩
theorem bound_ex : ∀ D : List W, ∃ n, ∀ t ∈ D, t.length < n
  | [] => ⟨0, fun _ h => nomatch h⟩
  | t :: r => by
    obtain ⟨n, hn⟩ := bound_ex r
    refine ⟨n + t.length + 1, fun u hu => ?_⟩
    rcases List.mem_cons.mp hu with e | h
    · subst e; omega
    · have := hn u h; omega
theorem fac_ne {D : List W} {x : W} (h : Fac D x) : D ≠ [] := by
  obtain ⟨t, ht, _⟩ := h
  intro e; subst e; cases ht
/-- C1 -/
theorem ext_ex {D : List W} {x : W} (h : Fac D x) : ∃ y, Ext (Can D) x y ∧ Goes D x y := by
  obtain ⟨n, hn⟩ := bound_ex D
  obtain ⟨y, y1, y2, y3⟩ := goes_ex n x (fun t ht => by have := hn t ht; omega) h
  exact ⟨y, ⟨y1, y2, fun z hz hx => goes_ext (fac_ne h) y3 hz hx⟩, y3⟩
theorem ext_goes {D : List W} {x y : W} (hf : Fac D x) (h : Ext (Can D) x y) : Goes D x y := by
  obtain ⟨z, hz, g⟩ := ext_ex hf
  rw [h.uniq hz]; exact g
theorem goes_concat {D : List W} {x y : W} (c : Nat) (g : Goes D x y) : Goes D (x ++ [c]) (y ++ [c]) := by
  intro t ht e o
  have h0 : 0 < e := by
    rcases Nat.eq_zero_or_pos e with z | z
    · subst z; have := o.2.length_le; simp at this
    · exact z
  obtain ⟨d, ed, _⟩ := take_concat h0 o.1
  have hs := o.2
  rw [ed] at hs
  obtain ⟨rfl, h2⟩ := of_suf_concat hs
  refine ⟨o.1, ?_⟩
  rw [ed]
  exact suf_concat (g t ht (e - 1) ⟨by have := o.1; omega, h2⟩).2
/-- C2: what the builder's proof wants of the words -/
structure Good (F S : W → Prop) : Prop where
  suf : ∀ x y, F y → x <:+ y → F x
  ini : ∀ x c, F (x ++ [c]) → F x
  fac : ∀ x, S x → F x
  nil : S []
  ex : ∀ x, F x → ∃ y, Ext S x y
  c2F : ∀ x y c, F x → Ext S x y → F (x ++ [c]) → F (y ++ [c])
  c2S : ∀ x y c, F x → Ext S x y → ∀ z, S z → x ++ [c] <:+ z → y ++ [c] <:+ z
theorem good {D : List W} (h0 : D ≠ []) : Good (Fac D) (Can D) where
  suf := fun _ _ h s => h.suf s
  ini := fun _ _ h => h.init
  fac := fun _ h => h.fac h0
  nil := .inl rfl
  ex := fun x h => let ⟨y, hy, _⟩ := ext_ex h; ⟨y, hy⟩
  c2F := fun x y c hf h q => by
    obtain ⟨t, ht, e, o⟩ := q
    exact ⟨t, ht, e, goes_concat c (ext_goes hf h) t ht e o⟩
  c2S := fun x y c hf h z hz q => goes_ext h0 (goes_concat c (ext_goes hf h)) hz q

/-! ### one letter more -/
section
variable {R : List W} {p : W} {c : Nat}
theorem occ_more {w : W} {e : Nat} : Occ w (p ++ [c]) e ↔ Occ w p e ∨ (e = p.length + 1 ∧ w <:+ p ++ [c]) := by
  unfold Occ
  constructor
  · rintro ⟨h1, h2⟩
    rcases Nat.lt_or_ge p.length e with l | l
    · have e1 : e = p.length + 1 := by simp at h1; omega
      subst e1
      right
      refine ⟨rfl, ?_⟩
      have : (p ++ [c]).take (p.length + 1) = p ++ [c] := List.take_of_length_le (by simp)
      rw [this] at h2; exact h2
    · left
      rw [List.take_append_of_le_length l] at h2
      exact ⟨l, h2⟩
  · rintro (⟨h1, h2⟩ | ⟨rfl, h2⟩)
    · rw [List.take_append_of_le_length h1]
      exact ⟨by simp; omega, h2⟩
    · refine ⟨by simp, ?_⟩
      have : (p ++ [c]).take (p.length + 1) = p ++ [c] := List.take_of_length_le (by simp)
      rw [this]; exact h2
theorem fac_step {w : W} : Fac (R ++ [p ++ [c]]) w ↔ Fac (R ++ [p]) w ∨ w <:+ p ++ [c] := by
  constructor
  · rintro ⟨t, ht, e, o⟩
    rcases List.mem_append.mp ht with h | h
    · exact .inl ⟨t, List.mem_append_left _ h, e, o⟩
    · have : t = p ++ [c] := by simpa using h
      subst this
      rcases occ_more.mp o with q | ⟨_, q⟩
      · exact .inl ⟨p, by simp, e, q⟩
      · exact .inr q
  · rintro (⟨t, ht, e, o⟩ | h)
    · rcases List.mem_append.mp ht with h | h
      · exact ⟨t, List.mem_append_left _ h, e, o⟩
      · have : t = p := by simpa using h
        subst this
        exact ⟨t ++ [c], by simp, e, occ_more.mpr (.inl o)⟩
    · exact ⟨p ++ [c], by simp, p.length + 1, occ_more.mpr (.inr ⟨rfl, h⟩)⟩
theorem can_step {v w : W} (h1 : v <:+ p ++ [c]) (h2 : Fac (R ++ [p]) v) (h3 : ∀ u, u <:+ p ++ [c] → Fac (R ++ [p]) u → u <:+ v) :
    Can (R ++ [p ++ [c]]) w ↔ Can (R ++ [p]) w ∨ w = p ++ [c] ∨ w = v := by
  constructor
  · rintro (e | ⟨t, ht, hp⟩ | ⟨a, b, hab, ha, hb⟩)
    · exact .inl (.inl e)
    · rcases List.mem_append.mp ht with h | h
      · exact .inl (.inr (.inl ⟨t, List.mem_append_left _ h, hp⟩))
      · have : t = p ++ [c] := by simpa using h
        subst this
        rcases List.prefix_concat_iff.mp hp with e | q
        · exact .inr (.inl e)
        · exact .inl (.inr (.inl ⟨p, by simp, q⟩))
    · have key : ∀ a b, a ≠ b → Fac (R ++ [p ++ [c]]) (a :: w) → Fac (R ++ [p ++ [c]]) (b :: w) → ¬ Fac (R ++ [p]) (a :: w) → w = v := by
        intro a b hab ha hb na
        have sa : a :: w <:+ p ++ [c] := (fac_step.mp ha).resolve_left na
        have sw : w <:+ p ++ [c] := (List.suffix_cons a w).trans sa
        have fb : Fac (R ++ [p]) (b :: w) := by
          rcases fac_step.mp hb with q | q
          · exact q
          · have := suf_len_eq sa q (by simp)
            simp at this
            exact absurd this hab
        have wv : w <:+ v := h3 w sw (fb.suf (List.suffix_cons b w))
        by_cases e : w = v
        · exact e
        · have l := suf_len_lt wv e
          have q : a :: w <:+ v := suf_cmp sa h1 l
          exact absurd (h2.suf q) na
      by_cases fa : Fac (R ++ [p]) (a :: w)
      · by_cases fb : Fac (R ++ [p]) (b :: w)
        · exact .inl (.inr (.inr ⟨a, b, hab, fa, fb⟩))
        · exact .inr (.inr (key b a (Ne.symm hab) hb ha fb))
      · exact .inr (.inr (key a b hab ha hb fa))
  · rintro (h | h | h)
    · rcases h with e | ⟨t, ht, hp⟩ | ⟨a, b, hab, ha, hb⟩
      · exact .inl e
      · rcases List.mem_append.mp ht with h | h
        · exact .inr (.inl ⟨t, List.mem_append_left _ h, hp⟩)
        · have : t = p := by simpa using h
          subst this
          exact .inr (.inl ⟨t ++ [c], by simp, hp.trans (List.prefix_append _ _)⟩)
      · exact .inr (.inr ⟨a, b, hab, fac_step.mpr (.inl ha), fac_step.mpr (.inl hb)⟩)
    · exact .inr (.inl ⟨p ++ [c], by simp, by rw [h]; exact List.prefix_refl _⟩)
    · subst h
      by_cases e : w = p ++ [c]
      · exact .inr (.inl ⟨p ++ [c], by simp, by rw [e]; exact List.prefix_refl _⟩)
      · obtain ⟨a, ha⟩ := suf_cons h1 e
        have na : ¬ Fac (R ++ [p]) (a :: w) := fun q => by
          have := (h3 _ ha q).length_le
          rw [List.length_cons] at this
          omega
        obtain ⟨t, ht, e2, o⟩ := id h2
        by_cases q : w = t.take e2
        · have hp : w <+: t := by rw [q]; exact List.take_prefix _ _
          rcases List.mem_append.mp ht with h | h
          · exact .inr (.inl ⟨t, List.mem_append_left _ h, hp⟩)
          · have : t = p := by simpa using h
            subst this
            exact .inr (.inl ⟨t ++ [c], by simp, hp.trans (List.prefix_append _ _)⟩)
        · obtain ⟨b, hb⟩ := suf_cons o.2 q
          have fb : Fac (R ++ [p]) (b :: w) := ⟨t, ht, e2, o.1, hb⟩
          refine .inr (.inr ⟨a, b, fun z => ?_, fac_step.mpr (.inr ha), fac_step.mpr (.inl fb)⟩)
          subst z
          exact na fb
end
/-- an empty text more -/
theorem fac_empty {D : List W} (h : ([] : W) ∈ D) {w : W} : Fac (D ++ [[]]) w ↔ Fac D w := by
  constructor
  · rintro ⟨t, ht, e, o⟩
    rcases List.mem_append.mp ht with q | q
    · exact ⟨t, q, e, o⟩
    · have : t = [] := by simpa using q
      subst this
      exact ⟨[], h, e, o⟩
  · rintro ⟨t, ht, e, o⟩
    exact ⟨t, List.mem_append_left _ ht, e, o⟩
theorem can_empty {D : List W} (h : ([] : W) ∈ D) {w : W} : Can (D ++ [[]]) w ↔ Can D w := by
  unfold Can
  constructor
  · rintro (e | ⟨t, ht, hp⟩ | ⟨a, b, q, ha, hb⟩)
    · exact .inl e
    · rcases List.mem_append.mp ht with q | q
      · exact .inr (.inl ⟨t, q, hp⟩)
      · have : t = [] := by simpa using q
        subst this
        exact .inl (List.prefix_nil.mp hp)
    · exact .inr (.inr ⟨a, b, q, (fac_empty h).mp ha, (fac_empty h).mp hb⟩)
  · rintro (e | ⟨t, ht, hp⟩ | ⟨a, b, q, ha, hb⟩)
    · exact .inl e
    · exact .inr (.inl ⟨t, List.mem_append_left _ ht, hp⟩)
    · exact .inr (.inr ⟨a, b, q, (fac_empty h).mpr ha, (fac_empty h).mpr hb⟩)
end Sfx
end
section
set_option linter.all false
/-! The automaton of the words: its invariant, the split of a state, a new state. Plain Lean: states have numbers (of any kind), lab tells each state's longest word. -/
namespace Sfx
structure Nd where
  edges : List (Nat × Nat)
  link : Option Nat
  size : Nat
  pair : Option (Int × Nat)
def look (es : List (Nat × Nat)) (c : Nat) : Option Nat := (es.find? fun q => decide (q.1 = c)).map (·.2)
def aput (es : List (Nat × Nat)) (c k : Nat) : List (Nat × Nat) :=
  if (es.any fun q => decide (q.1 = c)) = true then es.map (fun q => if q.1 = c then (q.1, k) else q) else es ++ [(c, k)]
theorem look_nil {c : Nat} : look [] c = none := rfl
theorem look_cons {q : Nat × Nat} {es : List (Nat × Nat)} {c : Nat} : look (q :: es) c = if q.1 = c then some q.2 else look es c := by
  unfold look
  rw [List.find?_cons]
  by_cases h : q.1 = c
  · simp [h]
  · simp [h]
theorem look_any (c : Nat) : ∀ es : List (Nat × Nat), (es.any fun q => decide (q.1 = c)) = (look es c).isSome
  | [] => rfl
  | q :: r => by
    rw [List.any_cons, look_cons, look_any c r]
    by_cases h : q.1 = c <;> simp [h]
theorem look_append {c : Nat} {q : Nat × Nat} : ∀ es : List (Nat × Nat), look (es ++ [q]) c = match look es c with | some k => some k | none => if q.1 = c then some q.2 else none
  | [] => by rw [List.nil_append, look_cons]; rfl
  | e :: r => by
    rw [List.cons_append, look_cons, look_cons, look_append r]
    by_cases h : e.1 = c <;> simp [h]
theorem look_map {c k d : Nat} : ∀ es : List (Nat × Nat), look (es.map fun q => if q.1 = c then (q.1, k) else q) d = if d = c then (look es c).map (fun _ => k) else look es d
  | [] => by by_cases h : d = c <;> simp [h, look]
  | e :: r => by
    rw [List.map_cons, look_cons, look_map r, look_cons, look_cons]
    by_cases h : e.1 = c
    · by_cases g : d = c
      · simp [h, g]
      · have g' : ¬ c = d := fun z => g z.symm
        simp [h, g, g']
    · by_cases g : d = c
      · subst g; simp [h]
      · simp [h, g]
theorem look_aput {es : List (Nat × Nat)} {c k d : Nat} : look (aput es c k) d = if d = c then some k else look es d := by
  unfold aput
  by_cases h : (es.any fun q => decide (q.1 = c)) = true
  · rw [if_pos h, look_map]
    rw [look_any] at h
    by_cases g : d = c
    · obtain ⟨v, hv⟩ := Option.isSome_iff_exists.mp h
      simp [g, hv]
    · simp [g]
  · rw [if_neg h, look_append]
    rw [look_any] at h
    have hn : look es c = none := by simpa using h
    by_cases g : d = c
    · subst g; simp [hn]
    · have g' : ¬ c = d := fun z => g z.symm
      simp only [g, g', if_false]
      cases look es d <;> rfl
theorem keys_aput {es : List (Nat × Nat)} {c k : Nat} : (aput es c k).map (·.1) = if (look es c).isSome = true then es.map (·.1) else es.map (·.1) ++ [c] := by
  unfold aput
  rw [look_any]
  by_cases h : (look es c).isSome = true
  · rw [if_pos h, if_pos h, List.map_map]
    apply List.map_congr_left
    intro q _
    show (if q.1 = c then (q.1, k) else q).1 = q.1
    by_cases g : q.1 = c
    · rw [if_pos g]
    · rw [if_neg g]
  · rw [if_neg h, if_neg h, List.map_append]; rfl
theorem look_mem {c : Nat} : ∀ {es : List (Nat × Nat)}, (look es c).isSome = true ↔ c ∈ es.map (·.1)
  | [] => by simp [look]
  | e :: r => by
    rw [look_cons, List.map_cons, List.mem_cons]
    by_cases h : e.1 = c
    · simp [h]
    · have h' : ¬ c = e.1 := fun z => h z.symm
      rw [if_neg h, look_mem]
      simp [h']
theorem nodup_aput {es : List (Nat × Nat)} {c k : Nat} (h : (es.map (·.1)).Nodup) : ((aput es c k).map (·.1)).Nodup := by
  rw [keys_aput]
  by_cases g : (look es c).isSome = true
  · rw [if_pos g]; exact h
  · rw [if_neg g, List.nodup_append]
    refine ⟨h, by simp, fun a ha b hb => ?_⟩
    have : b = c := by simpa using hb
    subst this
    intro e
    subst e
    exact g (look_mem.mpr ha)

def live (hole : Option Nat) (k : Nat) : Prop := hole ≠ some k
/-- nd is the automaton of the words S, all stretches F; states V; edges to the hole are not looked at -/
structure Aut (hole : Option Nat) (F S : W → Prop) (s0 : Nat) (V : List Nat) (nd : Nat → Nd) (lab : Nat → W) : Prop where
  s0m : s0 ∈ V
  lab0 : lab s0 = []
  inj : ∀ i ∈ V, ∀ j ∈ V, lab i = lab j → i = j
  sound : ∀ i ∈ V, S (lab i)
  full : ∀ w, S w → ∃ i ∈ V, lab i = w
  size : ∀ i ∈ V, (nd i).size = (lab i).length
  link0 : ∀ i ∈ V, (nd i).link = none ↔ i = s0
  link : ∀ i ∈ V, ∀ j, (nd i).link = some j → j ∈ V ∧ lab j <:+ lab i ∧ lab j ≠ lab i ∧ ∀ w, S w → w <:+ lab i → w ≠ lab i → w <:+ lab j
  keys : ∀ i ∈ V, ((nd i).edges.map (·.1)).Nodup
  edge : ∀ i ∈ V, ∀ c k, look (nd i).edges c = some k → hole ≠ some k → k ∈ V ∧ F (lab i ++ [c]) ∧ Ext S (lab i ++ [c]) (lab k)
  edgeF : ∀ i ∈ V, ∀ c, F (lab i ++ [c]) → ∃ k, look (nd i).edges c = some k ∧ hole ≠ some k
  nohole : ∀ k ∈ V, hole ≠ some k

/-- only the words change their spelling -/
theorem Aut.congr {hole : Option Nat} {F S F' S' : W → Prop} {s0 : Nat} {V : List Nat} {nd : Nat → Nd} {lab : Nat → W} (A : Aut hole F S s0 V nd lab) (hF : ∀ w, F' w ↔ F w) (hS : ∀ w, S' w ↔ S w) : Aut hole F' S' s0 V nd lab := by
  have e1 : F' = F := funext fun w => propext (hF w)
  have e2 : S' = S := funext fun w => propext (hS w)
  subst e1; subst e2; exact A

section
variable {hole : Option Nat} {F S : W → Prop} {s0 : Nat} {V : List Nat} {nd : Nat → Nd} {lab : Nat → W}
/-- a state whose word is c behind a state's word's end -/
theorem Aut.target {i j c : Nat} (A : Aut hole F S s0 V nd lab) (hi : i ∈ V) (h : look (nd i).edges c = some j) (hh : hole ≠ some j) (hs : S (lab i ++ [c])) : lab j = lab i ++ [c] :=
  (A.edge i hi c j h hh).2.2.uniq (Ext.self hs)
theorem lab_ne {i j : Nat} (A : Aut hole F S s0 V nd lab) (hi : i ∈ V) (hj : j ∈ V) (h : i ≠ j) : lab i ≠ lab j := fun e => h (A.inj i hi j hj e)

/-! ### the split of j, reached from i by c, by the new state t -/
def set (nd : Nat → Nd) (i : Nat) (v : Nd) : Nat → Nd := fun m => if m = i then v else nd m
def setL (lab : Nat → W) (i : Nat) (v : W) : Nat → W := fun m => if m = i then v else lab m
theorem set_same {i : Nat} {v : Nd} : set nd i v i = v := if_pos rfl
theorem set_ne {i m : Nat} {v : Nd} (h : m ≠ i) : set nd i v m = nd m := if_neg h
theorem setL_same {i : Nat} {v : W} : setL lab i v i = v := if_pos rfl
theorem setL_ne {i m : Nat} {v : W} (h : m ≠ i) : setL lab i v m = lab m := if_neg h
/-- behind the twin's making -/
def twin (nd : Nat → Nd) (i j t : Nat) : Nat → Nd :=
  set (set nd t { edges := (nd j).edges, link := (nd j).link, size := (nd i).size + 1, pair := (nd j).pair }) j { nd j with link := some t }
/-- a state of the chain of i that was passed before cur -/
def Past (lab : Nat → W) (V : List Nat) (w : W) (cur : Option Nat) (m : Nat) : Prop := m ∈ V ∧ lab m <:+ w ∧ ∀ x, cur = some x → (lab x).length < (lab m).length
/-- the loop that turns the edges -/
structure Turning (lab : Nat → W) (V : List Nat) (nd1 : Nat → Nd) (i j c t : Nat) (cur : Option Nat) (nd' : Nat → Nd) : Prop where
  atC : ∀ x, cur = some x → x ∈ V ∧ lab x <:+ lab i
  past : ∀ m, Past lab V (lab i) cur m → look (nd1 m).edges c = some j ∧ nd' m = { nd1 m with edges := aput (nd1 m).edges c t }
  other : ∀ m, ¬ Past lab V (lab i) cur m → nd' m = nd1 m
/-- .. and its end -/
structure Turned (lab : Nat → W) (V : List Nat) (nd1 : Nat → Nd) (i j c t : Nat) (nd' : Nat → Nd) : Prop where
  yes : ∀ m, m ∈ V → lab m <:+ lab i → look (nd1 m).edges c = some j → nd' m = { nd1 m with edges := aput (nd1 m).edges c t }
  no : ∀ m, ¬ (m ∈ V ∧ lab m <:+ lab i ∧ look (nd1 m).edges c = some j) → nd' m = nd1 m
theorem twin_t {i j t : Nat} (h : t ≠ j) : twin nd i j t t = { edges := (nd j).edges, link := (nd j).link, size := (nd i).size + 1, pair := (nd j).pair } := by
  unfold twin; rw [set_ne h, set_same]
theorem twin_j {i j t : Nat} : twin nd i j t j = { nd j with link := some t } := by unfold twin; rw [set_same]
theorem twin_o {i j t m : Nat} (h : m ≠ j) (g : m ≠ t) : twin nd i j t m = nd m := by unfold twin; rw [set_ne h, set_ne g]
theorem turning_start {i j c t : Nat} (A : Aut hole F S s0 V nd lab) (hi : i ∈ V) {nd1 : Nat → Nd} : Turning lab V nd1 i j c t (some i) nd1 where
  atC := fun x e => by cases e; exact ⟨hi, List.suffix_refl _⟩
  past := fun m ⟨_, h2, h3⟩ => absurd h2.length_le (by have := h3 i rfl; omega)
  other := fun _ _ => rfl
/-- what stands for the split -/
structure CanSplit (hole : Option Nat) (F S : W → Prop) (s0 : Nat) (V : List Nat) (nd : Nat → Nd) (lab : Nat → W) (i j c t : Nat) : Prop where
  A : Aut hole F S s0 V nd lab
  G : Good F S
  hi : i ∈ V
  hj : look (nd i).edges c = some j
  hh : hole ≠ some j
  ht : t ∉ V
  hth : hole ≠ some t
  sz : (nd j).size ≠ (nd i).size + 1
section
variable {i j c t : Nat} (T : CanSplit hole F S s0 V nd lab i j c t)
include T
theorem CanSplit.jm : j ∈ V := (T.A.edge i T.hi c j T.hj T.hh).1
theorem CanSplit.fw : F (lab i ++ [c]) := (T.A.edge i T.hi c j T.hj T.hh).2.1
theorem CanSplit.ext : Ext S (lab i ++ [c]) (lab j) := (T.A.edge i T.hi c j T.hj T.hh).2.2
theorem CanSplit.tj : t ≠ j := fun e => T.ht (e ▸ T.jm)
theorem CanSplit.ti : t ≠ i := fun e => T.ht (e ▸ T.hi)
theorem CanSplit.nS : ¬ S (lab i ++ [c]) := fun h => by
  have e := T.A.target T.hi T.hj T.hh h
  apply T.sz
  rw [T.A.size j T.jm, T.A.size i T.hi, e]
  simp
theorem CanSplit.lt : (lab i).length + 1 < (lab j).length := by
  have h1 := T.ext.2.1
  have ne : lab i ++ [c] ≠ lab j := fun e => T.nS (e ▸ T.ext.1)
  have := suf_len_lt h1 ne
  simpa using this
theorem CanSplit.j0 : j ≠ s0 := fun e => by
  have := T.lt
  rw [e, T.A.lab0] at this
  simp at this
/-- the chain's labels leave t and j out -/
theorem CanSplit.chain {m : Nat} (hm : m ∈ V) (hs : lab m <:+ lab i) : m ≠ j ∧ m ≠ t :=
  ⟨fun e => by subst e; have := hs.length_le; have := T.lt; omega, fun e => T.ht (e ▸ hm)⟩
theorem CanSplit.look1 {m : Nat} (hm : m ∈ V) (hs : lab m <:+ lab i) : twin nd i j t m = nd m := let ⟨a, b⟩ := T.chain hm hs; twin_o a b
/-- an edge by c along the chain is there -/
theorem CanSplit.there {m : Nat} (hm : m ∈ V) (hs : lab m <:+ lab i) : ∃ k, look (twin nd i j t m).edges c = some k ∧ hole ≠ some k ∧ k ∈ V := by
  obtain ⟨k, h1, h2⟩ := T.A.edgeF m hm c (T.G.suf _ _ T.fw (suf_concat hs))
  rw [T.look1 hm hs]
  exact ⟨k, h1, h2, (T.A.edge m hm c k h1 h2).1⟩
theorem CanSplit.atCur {nd' : Nat → Nd} {x : Nat} (R : Turning lab V (twin nd i j t) i j c t (some x) nd') : nd' x = nd x ∧ x ∈ V ∧ lab x <:+ lab i ∧ x ≠ j ∧ x ≠ t ∧ ∃ k, look (nd x).edges c = some k ∧ hole ≠ some k ∧ k ∈ V := by
  obtain ⟨h1, h2⟩ := R.atC x rfl
  have e := R.other x fun ⟨_, _, q⟩ => absurd (q x rfl) (Nat.lt_irrefl _)
  obtain ⟨k, k1, k2, k3⟩ := T.there h1 h2
  rw [T.look1 h1 h2] at e k1
  obtain ⟨n1, n2⟩ := T.chain h1 h2
  exact ⟨e, h1, h2, n1, n2, k, k1, k2, k3⟩
theorem CanSplit.turn {nd' : Nat → Nd} {x : Nat} (R : Turning lab V (twin nd i j t) i j c t (some x) nd') (hx : look (nd x).edges c = some j) :
    Turning lab V (twin nd i j t) i j c t (nd x).link (set nd' x { nd x with edges := aput (nd x).edges c t }) := by
  obtain ⟨e0, hx1, hx2, hx3, hx4, _⟩ := T.atCur R
  have past_iff : ∀ m, Past lab V (lab i) (nd x).link m ↔ m = x ∨ Past lab V (lab i) (some x) m := by
    intro m
    constructor
    · rintro ⟨m1, m2, m3⟩
      by_cases e : m = x
      · exact .inl e
      · refine .inr ⟨m1, m2, fun y ey => ?_⟩
        cases ey
        rcases Nat.lt_or_ge (lab x).length (lab m).length with l | l
        · exact l
        · exfalso
          have hmx : lab m <:+ lab x := suf_cmp m2 hx2 l
          cases hl : (nd x).link with
          | none =>
            have : x = s0 := (T.A.link0 x hx1).mp hl
            subst this
            have q : lab m = [] := List.suffix_nil.mp (T.A.lab0 ▸ hmx)
            exact e (T.A.inj m m1 _ hx1 (q.trans T.A.lab0.symm))
          | some y =>
            have := m3 y hl
            have q := (T.A.link x hx1 y hl).2.2.2 (lab m) (T.A.sound m m1) hmx (lab_ne T.A m1 hx1 e)
            have := q.length_le
            omega
    · rintro (e | ⟨m1, m2, m3⟩)
      · subst e
        exact ⟨hx1, hx2, fun y ey => by
          obtain ⟨_, q1, q2, _⟩ := T.A.link m hx1 y ey
          exact suf_len_lt q1 q2⟩
      · refine ⟨m1, m2, fun y ey => ?_⟩
        obtain ⟨_, q1, q2, _⟩ := T.A.link x hx1 y ey
        have := suf_len_lt q1 q2
        have := m3 x rfl
        omega
  refine ⟨fun y ey => ?_, fun m hm => ?_, fun m hm => ?_⟩
  · obtain ⟨q0, q1, _, _⟩ := T.A.link x hx1 y ey
    exact ⟨q0, q1.trans hx2⟩
  · rcases (past_iff m).mp hm with e | h
    · subst e
      rw [T.look1 hx1 hx2, set_same]
      exact ⟨hx, rfl⟩
    · have ne : m ≠ x := fun e => by subst e; exact absurd (h.2.2 m rfl) (Nat.lt_irrefl _)
      rw [set_ne ne]
      exact R.past m h
  · have ne : m ≠ x := fun e => hm ((past_iff m).mpr (.inl e))
    rw [set_ne ne]
    exact R.other m fun h => hm ((past_iff m).mpr (.inr h))
theorem CanSplit.done {nd' : Nat → Nd} {cur : Option Nat} (R : Turning lab V (twin nd i j t) i j c t cur nd') (hx : ∀ x, cur = some x → look (nd x).edges c ≠ some j) : Turned lab V (twin nd i j t) i j c t nd' := by
  have low : ∀ m, m ∈ V → lab m <:+ lab i → look (twin nd i j t m).edges c = some j → Past lab V (lab i) cur m := by
    intro m m1 m2 m3
    refine ⟨m1, m2, fun x e => ?_⟩
    subst e
    obtain ⟨e0, hx1, hx2, hx3, hx4, k, k1, k2, k3⟩ := T.atCur R
    rcases Nat.lt_or_ge (lab x).length (lab m).length with l | l
    · exact l
    · exfalso
      have hmx : lab m <:+ lab x := suf_cmp m2 hx2 l
      rw [T.look1 m1 m2] at m3
      -- the target of x is a word with the end lab x ++ [c]: j's word is an end of it
      have x1 := (T.A.edge x hx1 c k k1 k2).2.2
      have y1 := (T.A.edge m m1 c j m3 T.hh).2.2
      have a1 : lab j <:+ lab k := y1.2.2 (lab k) x1.1 ((suf_concat hmx).trans x1.2.1)
      have a2 : lab k <:+ lab j := x1.2.2 (lab j) T.ext.1 ((suf_concat hx2).trans T.ext.2.1)
      have e : k = j := T.A.inj k k3 j T.jm (suf_antisymm a2 a1)
      exact hx x rfl (e ▸ k1)
  refine ⟨fun m m1 m2 m3 => (R.past m (low m m1 m2 m3)).2, fun m hm => R.other m fun h => hm ⟨h.1, h.2.1, (R.past m h).1⟩⟩
/-- what the split leaves -/
theorem CanSplit.aut {nd' : Nat → Nd} (R : Turned lab V (twin nd i j t) i j c t nd') : Aut hole F (fun w => S w ∨ w = lab i ++ [c]) s0 (V ++ [t]) nd' (setL lab t (lab i ++ [c])) := by
  have A := T.A
  have G := T.G
  have L : ∀ m ∈ V, setL lab t (lab i ++ [c]) m = lab m := fun m hm => setL_ne fun e => T.ht (e ▸ hm)
  have Lt : setL lab t (lab i ++ [c]) t = lab i ++ [c] := setL_same
  have nt : nd' t = { edges := (nd j).edges, link := (nd j).link, size := (nd i).size + 1, pair := (nd j).pair } := by
    rw [R.no t fun ⟨h, _⟩ => T.ht h, twin_t T.tj]
  -- the states but their edges
  have lk : ∀ m ∈ V, (nd' m).link = if m = j then some t else (nd m).link := by
    intro m hm
    have e1 : (nd' m).link = (twin nd i j t m).link := by
      by_cases q : m ∈ V ∧ lab m <:+ lab i ∧ look (twin nd i j t m).edges c = some j
      · rw [R.yes m q.1 q.2.1 q.2.2]
      · rw [R.no m q]
    rw [e1]
    by_cases e : m = j
    · subst e; rw [twin_j, if_pos rfl]
    · rw [twin_o e fun z => T.ht (by rw [← z]; exact hm), if_neg e]
  have sz : ∀ m ∈ V, (nd' m).size = (nd m).size := by
    intro m hm
    have e1 : (nd' m).size = (twin nd i j t m).size := by
      by_cases q : m ∈ V ∧ lab m <:+ lab i ∧ look (twin nd i j t m).edges c = some j
      · rw [R.yes m q.1 q.2.1 q.2.2]
      · rw [R.no m q]
    rw [e1]
    by_cases e : m = j
    · subst e; rw [twin_j]
    · rw [twin_o e fun z => T.ht (by rw [← z]; exact hm)]
  have te : ∀ m ∈ V, (twin nd i j t m).edges = (nd m).edges := by
    intro m hm
    by_cases e : m = j
    · subst e; rw [twin_j]
    · rw [twin_o e fun z => T.ht (by rw [← z]; exact hm)]
  have ed : ∀ m ∈ V, (lab m <:+ lab i ∧ look (nd m).edges c = some j ∧ (nd' m).edges = aput (nd m).edges c t) ∨ (¬ (lab m <:+ lab i ∧ look (nd m).edges c = some j) ∧ (nd' m).edges = (nd m).edges) := by
    intro m hm
    by_cases q : lab m <:+ lab i ∧ look (nd m).edges c = some j
    · have q2 : look (twin nd i j t m).edges c = some j := by rw [te m hm]; exact q.2
      refine .inl ⟨q.1, q.2, ?_⟩
      rw [R.yes m hm q.1 q2, te m hm]
    · refine .inr ⟨q, ?_⟩
      rw [R.no m fun z => q ⟨z.2.1, by rw [← te m hm]; exact z.2.2⟩, te m hm]
  have X := T.ext
  have jm := T.jm
  obtain ⟨y, hy⟩ : ∃ y, (nd j).link = some y := by
    cases q : (nd j).link with
    | none => exact absurd ((A.link0 j jm).mp q) T.j0
    | some y => exact ⟨y, rfl⟩
  obtain ⟨y1, y2, y3, y4⟩ := A.link j jm y hy
  -- the link of j before: an end of the new word
  have yw : lab y <:+ lab i ++ [c] := by
    rcases Nat.le_total (lab i ++ [c]).length (lab y).length with l | l
    · have q := X.2.2 (lab y) (A.sound y y1) (suf_cmp X.2.1 y2 l)
      exact absurd (suf_antisymm y2 q) y3
    · exact suf_cmp y2 X.2.1 l
  have nSw := T.nS
  have inV : ∀ m, m ∈ V ++ [t] → m ∈ V ∨ m = t := fun m h => by simpa using h
  refine ⟨List.mem_append_left _ A.s0m, by rw [L _ A.s0m]; exact A.lab0, fun a ha b hb e => ?_, fun a ha => ?_, fun w hw => ?_, fun a ha => ?_, fun a ha => ?_, fun a ha b e => ?_, fun a ha => ?_, fun a ha d k hk hh => ?_, fun a ha d hf => ?_, fun a ha => ?_⟩
  · rcases inV a ha with ha | rfl
    · rcases inV b hb with hb | rfl
      · rw [L a ha, L b hb] at e; exact A.inj a ha b hb e
      · rw [L a (by assumption), Lt] at e; exact absurd (e ▸ A.sound a (by assumption)) nSw
    · rcases inV b hb with hb | rfl
      · rw [L b hb, Lt] at e; exact absurd (e ▸ A.sound b hb) nSw
      · rfl
  · rcases inV a ha with ha | rfl
    · rw [L a ha]; exact .inl (A.sound a ha)
    · rw [Lt]; exact .inr rfl
  · rcases hw with h | h
    · obtain ⟨m, hm, e⟩ := A.full w h
      exact ⟨m, List.mem_append_left _ hm, by rw [L m hm]; exact e⟩
    · exact ⟨t, by simp, by rw [Lt, h]⟩
  · rcases inV a ha with ha | rfl
    · rw [sz a ha, L a ha]; exact A.size a ha
    · rw [nt, Lt]; show (nd i).size + 1 = _; rw [A.size i T.hi]; simp
  · rcases inV a ha with ha | rfl
    · rw [lk a ha]
      by_cases e : a = j
      · subst e; rw [if_pos rfl]; simp [T.j0]
      · rw [if_neg e]; exact A.link0 a ha
    · rw [nt]
      show (nd j).link = none ↔ _
      rw [hy]
      simp
      intro e
      exact T.ht (e ▸ A.s0m)
  · rcases inV a ha with ha | rfl
    · rw [lk a ha] at e
      rw [L a ha]
      by_cases ej : a = j
      · subst ej
        rw [if_pos rfl] at e
        cases e
        rw [Lt]
        refine ⟨by simp, X.2.1, fun z => nSw (z ▸ A.sound a ha), fun w hw hs hne => ?_⟩
        rcases hw with hw | hw
        · exact (y4 w hw hs hne).trans yw
        · rw [hw]; exact List.suffix_refl _
      · rw [if_neg ej] at e
        obtain ⟨b1, b2, b3, b4⟩ := A.link a ha b e
        rw [L b b1]
        refine ⟨List.mem_append_left _ b1, b2, b3, fun w hw hs hne => ?_⟩
        rcases hw with hw | hw
        · exact b4 w hw hs hne
        · subst hw
          have q := X.2.2 (lab a) (A.sound a ha) hs
          exact X.2.1.trans (b4 (lab j) X.1 q (lab_ne A jm ha (Ne.symm ej)))
    · rw [nt] at e
      have e' : (nd j).link = some b := e
      rw [hy] at e'
      cases e'
      rw [Lt, L _ y1]
      refine ⟨List.mem_append_left _ y1, yw, fun z => nSw (z ▸ A.sound _ y1), fun w hw hs hne => ?_⟩
      rcases hw with hw | hw
      · refine y4 w hw (hs.trans X.2.1) fun z => ?_
        have := hs.length_le
        have := T.lt
        rw [z] at hs
        have := hs.length_le
        simp at this
        omega
      · exact absurd hw hne
  · rcases inV a ha with ha | rfl
    · rcases ed a ha with ⟨_, _, q⟩ | ⟨_, q⟩
      · rw [q]; exact nodup_aput (A.keys a ha)
      · rw [q]; exact A.keys a ha
    · rw [nt]; exact A.keys j jm
  · rcases inV a ha with ha | rfl
    · rw [L a ha]
      have plain : look (nd a).edges d = some k → ¬ (d = c ∧ lab a <:+ lab i ∧ look (nd a).edges c = some j) → k ∈ V ++ [t] ∧ F (lab a ++ [d]) ∧ Ext (fun w => S w ∨ w = lab i ++ [c]) (lab a ++ [d]) (setL lab t (lab i ++ [c]) k) := by
        intro hk nq
        obtain ⟨k1, k2, k3⟩ := A.edge a ha d k hk hh
        rw [L k k1]
        refine ⟨List.mem_append_left _ k1, k2, .inl k3.1, k3.2.1, fun z hz hs => ?_⟩
        rcases hz with hz | hz
        · exact k3.2.2 z hz hs
        · subst hz
          obtain ⟨rfl, hai⟩ := of_suf_concat hs
          have kj : lab k <:+ lab j := k3.2.2 (lab j) X.1 (hs.trans X.2.1)
          rcases Nat.le_total (lab i ++ [d]).length (lab k).length with l | l
          · have q := X.2.2 (lab k) k3.1 (suf_cmp X.2.1 kj l)
            have e : k = j := A.inj k k1 j jm (suf_antisymm kj q)
            exact absurd ⟨rfl, hai, e ▸ hk⟩ nq
          · exact suf_cmp kj X.2.1 l
      rcases ed a ha with ⟨q1, q2, q⟩ | ⟨nq, q⟩
      · rw [q, look_aput] at hk
        by_cases e : d = c
        · subst e
          rw [if_pos rfl] at hk
          cases hk
          rw [Lt]
          have k3 := (A.edge a ha d j q2 T.hh).2
          refine ⟨by simp, k3.1, .inr rfl, suf_concat q1, fun z hz hs => ?_⟩
          rcases hz with hz | hz
          · exact X.2.1.trans (k3.2.2.2 z hz hs)
          · rw [hz]; exact List.suffix_refl _
        · rw [if_neg e] at hk
          exact plain hk fun z => e z.1
      · rw [q] at hk
        exact plain hk fun z => nq ⟨z.2.1, z.2.2⟩
    · rw [nt] at hk
      have hk' : look (nd j).edges d = some k := hk
      obtain ⟨k1, k2, k3⟩ := A.edge j jm d k hk' hh
      rw [Lt, L k k1]
      refine ⟨List.mem_append_left _ k1, G.suf _ _ k2 (suf_concat X.2.1), .inl k3.1, (suf_concat X.2.1).trans k3.2.1, fun z hz hs => ?_⟩
      rcases hz with hz | hz
      · exact k3.2.2 z hz (G.c2S _ _ d T.fw X z hz hs)
      · subst hz
        have := hs.length_le
        simp at this
  · rcases inV a ha with ha | rfl
    · rw [L a ha] at hf
      obtain ⟨k, k1, k2⟩ := A.edgeF a ha d hf
      rcases ed a ha with ⟨q1, q2, q⟩ | ⟨nq, q⟩
      · rw [q, look_aput]
        by_cases e : d = c
        · rw [if_pos e]; exact ⟨t, rfl, T.hth⟩
        · rw [if_neg e]; exact ⟨k, k1, k2⟩
      · rw [q]; exact ⟨k, k1, k2⟩
    · rw [Lt] at hf
      rw [nt]
      exact A.edgeF j jm d (G.c2F _ _ d T.fw X hf)
  · rcases inV a ha with ha | rfl
    · exact A.nohole a ha
    · exact T.hth
end
end
end Sfx
end
section
set_option linter.all false
/-! A letter more: the new state, the loop that lays edges to it, its link. -/
namespace Sfx
section
variable {F S : W → Prop} {s0 : Nat} {V : List Nat} {nd : Nat → Nd} {lab : Nat → W}
/-- the new state N, not linked yet -/
def fresh (nd : Nat → Nd) (N sz : Nat) (pr : Option (Int × Nat)) : Nat → Nd := set nd N { edges := [], link := none, size := sz, pair := pr }
/-- the loop that lays edges by c to N -/
structure Laying (lab : Nat → W) (V : List Nat) (nd0 : Nat → Nd) (p : W) (c N : Nat) (cur : Option Nat) (nd' : Nat → Nd) : Prop where
  atC : ∀ x, cur = some x → x ∈ V ∧ lab x <:+ p
  past : ∀ m, Past lab V p cur m → look (nd0 m).edges c = none ∧ nd' m = { nd0 m with edges := aput (nd0 m).edges c N }
  other : ∀ m, ¬ Past lab V p cur m → nd' m = nd0 m
/-- what stands when the new word p c is no stretch yet: l the state of p -/
structure CanAdd (F S : W → Prop) (s0 : Nat) (V : List Nat) (nd : Nat → Nd) (lab : Nat → W) (l c N : Nat) : Prop where
  A : Aut none F S s0 V nd lab
  G : Good F S
  hl : l ∈ V
  no : look (nd l).edges c = none
  hN : N ∉ V
section
variable {l c N : Nat} (T : CanAdd F S s0 V nd lab l c N)
include T
theorem CanAdd.nF : ¬ F (lab l ++ [c]) := fun h => by
  obtain ⟨k, hk, _⟩ := T.A.edgeF l T.hl c h
  rw [T.no] at hk; cases hk
theorem CanAdd.nl {m : Nat} (hm : m ∈ V) : m ≠ N := fun e => T.hN (e ▸ hm)
theorem CanAdd.look_none {m : Nat} (hm : m ∈ V) : look (nd m).edges c = none ↔ ¬ F (lab m ++ [c]) := by
  constructor
  · intro h f
    obtain ⟨k, hk, _⟩ := T.A.edgeF m hm c f
    rw [h] at hk; cases hk
  · intro h
    cases q : look (nd m).edges c with
    | none => rfl
    | some k => exact absurd (T.A.edge m hm c k q (by intro z; cases z)).2.1 h
theorem CanAdd.start {sz : Nat} {pr : Option (Int × Nat)} : Laying lab V (fresh nd N sz pr) (lab l) c N (some l) (fresh nd N sz pr) where
  atC := fun x e => by cases e; exact ⟨T.hl, List.suffix_refl _⟩
  past := fun m ⟨_, h2, h3⟩ => absurd h2.length_le (by have := h3 l rfl; omega)
  other := fun _ _ => rfl
theorem CanAdd.atCur {sz : Nat} {pr : Option (Int × Nat)} {nd' : Nat → Nd} {x : Nat} (R : Laying lab V (fresh nd N sz pr) (lab l) c N (some x) nd') : nd' x = nd x ∧ x ∈ V ∧ lab x <:+ lab l ∧ x ≠ N := by
  obtain ⟨h1, h2⟩ := R.atC x rfl
  have e := R.other x fun ⟨_, _, q⟩ => absurd (q x rfl) (Nat.lt_irrefl _)
  exact ⟨e.trans (set_ne (T.nl h1)), h1, h2, T.nl h1⟩
theorem CanAdd.turn {sz : Nat} {pr : Option (Int × Nat)} {nd' : Nat → Nd} {x : Nat} (R : Laying lab V (fresh nd N sz pr) (lab l) c N (some x) nd') (hx : look (nd x).edges c = none) :
    Laying lab V (fresh nd N sz pr) (lab l) c N (nd x).link (set nd' x { nd x with edges := aput (nd x).edges c N }) := by
  obtain ⟨e0, hx1, hx2, hx3⟩ := T.atCur R
  have past_iff : ∀ m, Past lab V (lab l) (nd x).link m ↔ m = x ∨ Past lab V (lab l) (some x) m := by
    intro m
    constructor
    · rintro ⟨m1, m2, m3⟩
      by_cases e : m = x
      · exact .inl e
      · refine .inr ⟨m1, m2, fun y ey => ?_⟩
        cases ey
        rcases Nat.lt_or_ge (lab x).length (lab m).length with q | q
        · exact q
        · exfalso
          have hmx : lab m <:+ lab x := suf_cmp m2 hx2 q
          cases hl : (nd x).link with
          | none =>
            have : x = s0 := (T.A.link0 x hx1).mp hl
            subst this
            have q : lab m = [] := List.suffix_nil.mp (T.A.lab0 ▸ hmx)
            exact e (T.A.inj m m1 _ hx1 (q.trans T.A.lab0.symm))
          | some y =>
            have := m3 y hl
            have q := (T.A.link x hx1 y hl).2.2.2 (lab m) (T.A.sound m m1) hmx (lab_ne T.A m1 hx1 e)
            have := q.length_le
            omega
    · rintro (e | ⟨m1, m2, m3⟩)
      · subst e
        exact ⟨hx1, hx2, fun y ey => by
          obtain ⟨_, q1, q2, _⟩ := T.A.link m hx1 y ey
          exact suf_len_lt q1 q2⟩
      · refine ⟨m1, m2, fun y ey => ?_⟩
        obtain ⟨_, q1, q2, _⟩ := T.A.link x hx1 y ey
        have := suf_len_lt q1 q2
        have := m3 x rfl
        omega
  refine ⟨fun y ey => ?_, fun m hm => ?_, fun m hm => ?_⟩
  · obtain ⟨q0, q1, _, _⟩ := T.A.link x hx1 y ey
    exact ⟨q0, q1.trans hx2⟩
  · rcases (past_iff m).mp hm with e | h
    · subst e
      have e1 : fresh nd N sz pr m = nd m := set_ne hx3
      rw [e1, set_same]
      exact ⟨hx, rfl⟩
    · have ne : m ≠ x := fun e => by subst e; exact absurd (h.2.2 m rfl) (Nat.lt_irrefl _)
      rw [set_ne ne]
      exact R.past m h
  · have ne : m ≠ x := fun e => hm ((past_iff m).mpr (.inl e))
    rw [set_ne ne]
    exact R.other m fun h => hm ((past_iff m).mpr (.inr h))
/-- what the loop leaves: edges by c to N from the ends of p that had none; a found state q's word with c behind it is the longest end of p c that was a stretch -/
structure Laid (F S : W → Prop) (s0 : Nat) (V : List Nat) (lab : Nat → W) (p : W) (c N sz : Nat) (pr : Option (Int × Nat)) (nd' : Nat → Nd) : Prop where
  A : Aut (some N) F S s0 V nd' lab
  holes : ∀ m ∈ V, ∀ d, look (nd' m).edges d = some N ↔ d = c ∧ lab m <:+ p ∧ ¬ F (lab m ++ [c])
  atN : nd' N = { edges := [], link := none, size := sz, pair := pr }
theorem CanAdd.laid {sz : Nat} {pr : Option (Int × Nat)} {nd' : Nat → Nd} {cur : Option Nat} (R : Laying lab V (fresh nd N sz pr) (lab l) c N cur nd') (hx : ∀ x, cur = some x → look (nd x).edges c ≠ none) :
    Laid F S s0 V lab (lab l) c N sz pr nd' ∧ (∀ x, cur = some x → x ∈ V ∧ lab x <:+ lab l ∧ F (lab x ++ [c]) ∧ nd' x = nd x ∧ ∀ u, u <:+ lab l ++ [c] → F u → u <:+ lab x ++ [c]) ∧ (cur = none → ∀ u, u <:+ lab l ++ [c] → F u → u = []) := by
  have A := T.A
  have G := T.G
  have f0 : ∀ m ∈ V, fresh nd N sz pr m = nd m := fun m hm => set_ne (T.nl hm)
  have nfN : ∀ m, m ∈ V → ∀ d k, look (nd m).edges d = some k → k ≠ N := fun m hm d k h e => T.hN (e ▸ (A.edge m hm d k h (by intro z; cases z)).1)
  -- who is past the loop
  have past_iff : ∀ m ∈ V, Past lab V (lab l) cur m ↔ lab m <:+ lab l ∧ ¬ F (lab m ++ [c]) := by
    intro m hm
    constructor
    · intro h
      refine ⟨h.2.1, (T.look_none hm).mp ?_⟩
      have q := (R.past m h).1
      rw [f0 m hm] at q; exact q
    · rintro ⟨h1, h2⟩
      refine ⟨hm, h1, fun x e => ?_⟩
      subst e
      obtain ⟨e0, x1, x2, x3⟩ := T.atCur R
      rcases Nat.lt_or_ge (lab x).length (lab m).length with q | q
      · exact q
      · exfalso
        have fx : F (lab x ++ [c]) := by
          by_cases z : F (lab x ++ [c])
          · exact z
          · exact absurd ((T.look_none x1).mpr z) (hx x rfl)
        exact h2 (G.suf _ _ fx (suf_concat (suf_cmp h1 x2 q)))
  have ndm : ∀ m ∈ V, (nd' m).link = (nd m).link ∧ (nd' m).size = (nd m).size ∧ ((lab m <:+ lab l ∧ ¬ F (lab m ++ [c]) ∧ (nd' m).edges = aput (nd m).edges c N) ∨ (¬ (lab m <:+ lab l ∧ ¬ F (lab m ++ [c])) ∧ (nd' m).edges = (nd m).edges)) := by
    intro m hm
    by_cases q : Past lab V (lab l) cur m
    · have e := (R.past m q).2
      rw [f0 m hm] at e
      obtain ⟨q1, q2⟩ := (past_iff m hm).mp q
      rw [e]
      exact ⟨rfl, rfl, .inl ⟨q1, q2, rfl⟩⟩
    · have e := R.other m q
      rw [f0 m hm] at e
      rw [e]
      exact ⟨rfl, rfl, .inr ⟨fun z => q ((past_iff m hm).mpr z), rfl⟩⟩
  refine ⟨⟨⟨A.s0m, A.lab0, A.inj, A.sound, A.full, fun m hm => by rw [(ndm m hm).2.1]; exact A.size m hm, fun m hm => by rw [(ndm m hm).1]; exact A.link0 m hm, fun m hm j e => A.link m hm j (by rw [← (ndm m hm).1]; exact e), fun m hm => ?_, fun m hm d k hk hh => ?_, fun m hm d hf => ?_, fun m hm e => T.hN (by cases e; exact hm)⟩, fun m hm d => ?_, ?_⟩, fun x e => ?_, fun e u hu fu => ?_⟩
  · rcases (ndm m hm).2.2 with ⟨_, _, q⟩ | ⟨_, q⟩
    · rw [q]; exact nodup_aput (A.keys m hm)
    · rw [q]; exact A.keys m hm
  · have plain : look (nd m).edges d = some k → k ∈ V ∧ F (lab m ++ [d]) ∧ Ext S (lab m ++ [d]) (lab k) := fun h => A.edge m hm d k h (by intro z; cases z)
    rcases (ndm m hm).2.2 with ⟨_, _, q⟩ | ⟨_, q⟩
    · rw [q, look_aput] at hk
      by_cases e : d = c
      · rw [if_pos e] at hk; exact absurd hk hh
      · rw [if_neg e] at hk; exact plain hk
    · rw [q] at hk; exact plain hk
  · obtain ⟨k, k1, _⟩ := A.edgeF m hm d hf
    have kn := nfN m hm d k k1
    rcases (ndm m hm).2.2 with ⟨_, nf, q⟩ | ⟨_, q⟩
    · have e : ¬ d = c := fun z => nf (z ▸ hf)
      rw [q, look_aput, if_neg e]
      exact ⟨k, k1, fun z => by cases z; exact kn rfl⟩
    · rw [q]; exact ⟨k, k1, fun z => by cases z; exact kn rfl⟩
  · rcases (ndm m hm).2.2 with ⟨q1, q2, q⟩ | ⟨nq, q⟩
    · rw [q, look_aput]
      by_cases e : d = c
      · subst e; simp [q1, q2]
      · rw [if_neg e]
        constructor
        · intro h; exact absurd rfl (nfN m hm d N h)
        · rintro ⟨z, _⟩; exact absurd z e
    · rw [q]
      constructor
      · intro h; exact absurd rfl (nfN m hm d N h)
      · rintro ⟨_, z⟩; exact absurd z nq
  · have e := R.other N fun h => T.hN h.1
    rw [e]; exact set_same
  · subst e
    obtain ⟨e0, x1, x2, x3⟩ := T.atCur R
    have fx : F (lab x ++ [c]) := by
      by_cases z : F (lab x ++ [c])
      · exact z
      · exact absurd ((T.look_none x1).mpr z) (hx x rfl)
    refine ⟨x1, x2, fx, e0, fun u hu fu => ?_⟩
    rcases List.suffix_concat_iff.mp hu with e | ⟨v, e, hv⟩
    · subst e; exact List.nil_suffix
    · subst e
      obtain ⟨y, hy⟩ := G.ex v (G.ini _ _ fu)
      obtain ⟨m, hm, e⟩ := A.full y hy.1
      subst e
      have ym : lab m <:+ lab l := hy.2.2 (lab l) (A.sound l T.hl) hv
      have fm : F (lab m ++ [c]) := G.c2F v (lab m) c (G.ini _ _ fu) hy fu
      have : lab m <:+ lab x := by
        rcases Nat.le_total (lab m).length (lab x).length with q | q
        · exact suf_cmp ym x2 q
        · by_cases z : lab m = lab x
          · rw [z]; exact List.suffix_refl _
          · have np : ¬ Past lab V (lab l) (some x) m := fun h => ((past_iff m hm).mp h).2 fm
            exact absurd ⟨hm, ym, fun x' e' => by
              cases e'
              rcases Nat.lt_or_ge (lab x).length (lab m).length with r | r
              · exact r
              · exact absurd (suf_len_eq ym x2 (Nat.le_antisymm r q)) z⟩ np
      exact suf_concat (hy.2.1.trans this)
  · subst e
    rcases List.suffix_concat_iff.mp hu with e | ⟨v, e, hv⟩
    · exact e
    · subst e
      obtain ⟨y, hy⟩ := G.ex v (G.ini _ _ fu)
      obtain ⟨m, hm, e⟩ := A.full y hy.1
      subst e
      have ym : lab m <:+ lab l := hy.2.2 (lab l) (A.sound l T.hl) hv
      have fm : F (lab m ++ [c]) := G.c2F v (lab m) c (G.ini _ _ fu) hy fu
      exact absurd fm ((past_iff m hm).mp ⟨hm, ym, fun _ z => by cases z⟩).2
end
/-- the hole is closed: N linked to the state of the longest end v of p c that was a stretch -/
theorem close_hole {p v : W} {c N sz t' : Nat} {pr : Option (Int × Nat)} {nd' : Nat → Nd} (A : Aut (some N) F S s0 V nd' lab) (sufF : ∀ x y, F y → x <:+ y → F x) (iniF : ∀ x c, F (x ++ [c]) → F x) (facS : ∀ x, S x → F x)
    (holes : ∀ m ∈ V, ∀ d, look (nd' m).edges d = some N ↔ d = c ∧ lab m <:+ p ∧ ¬ F (lab m ++ [c])) (nF : ¬ F (p ++ [c])) (hsz : sz = p.length + 1) (ht : t' ∈ V) (lt : lab t' = v) (hN : N ∉ V)
    (hv : v <:+ p ++ [c]) (mx : ∀ u, u <:+ p ++ [c] → F u → u <:+ v) :
    Aut none (fun w => F w ∨ w <:+ p ++ [c]) (fun w => S w ∨ w = p ++ [c]) s0 (V ++ [N]) (set nd' N { edges := [], link := some t', size := sz, pair := pr }) (setL lab N (p ++ [c])) := by
  have L : ∀ m ∈ V, setL lab N (p ++ [c]) m = lab m := fun m hm => setL_ne fun e => hN (e ▸ hm)
  have LN : setL lab N (p ++ [c]) N = p ++ [c] := setL_same
  have E : ∀ m ∈ V, set nd' N { edges := [], link := some t', size := sz, pair := pr } m = nd' m := fun m hm => set_ne fun e => hN (e ▸ hm)
  have inV : ∀ m, m ∈ V ++ [N] → m ∈ V ∨ m = N := fun m h => by simpa using h
  have nS : ¬ S (p ++ [c]) := fun h => nF (facS _ h)
  refine ⟨List.mem_append_left _ A.s0m, by rw [L _ A.s0m]; exact A.lab0, fun a ha b hb e => ?_, fun a ha => ?_, fun w hw => ?_, fun a ha => ?_, fun a ha => ?_, fun a ha b e => ?_, fun a ha => ?_, fun a ha d k hk hh => ?_, fun a ha d hf => ?_, fun a ha => by intro z; cases z⟩
  · rcases inV a ha with ha | rfl
    · rcases inV b hb with hb | rfl
      · rw [L a ha, L b hb] at e; exact A.inj a ha b hb e
      · rw [L a (by assumption), LN] at e; exact absurd (e ▸ A.sound a (by assumption)) nS
    · rcases inV b hb with hb | rfl
      · rw [L b hb, LN] at e; exact absurd (e ▸ A.sound b hb) nS
      · rfl
  · rcases inV a ha with ha | rfl
    · rw [L a ha]; exact .inl (A.sound a ha)
    · rw [LN]; exact .inr rfl
  · rcases hw with h | h
    · obtain ⟨m, hm, e⟩ := A.full w h
      exact ⟨m, List.mem_append_left _ hm, by rw [L m hm]; exact e⟩
    · exact ⟨N, by simp, by rw [LN, h]⟩
  · rcases inV a ha with ha | rfl
    · rw [E a ha, L a ha]; exact A.size a ha
    · rw [set_same, LN]; simp [hsz]
  · rcases inV a ha with ha | rfl
    · rw [E a ha]; exact A.link0 a ha
    · rw [set_same]
      simp
      intro e
      exact hN (e ▸ A.s0m)
  · rcases inV a ha with ha | rfl
    · rw [E a ha] at e
      obtain ⟨b1, b2, b3, b4⟩ := A.link a ha b e
      rw [L a ha, L b b1]
      refine ⟨List.mem_append_left _ b1, b2, b3, fun w hw hs hne => ?_⟩
      rcases hw with hw | hw
      · exact b4 w hw hs hne
      · subst hw
        exact absurd (sufF _ _ (facS _ (A.sound a ha)) hs) nF
    · rw [set_same] at e
      have e' : some t' = some b := e
      cases e'
      rw [LN, L t' ht, lt]
      refine ⟨List.mem_append_left _ ht, hv, fun z => nF (z ▸ facS _ (lt ▸ A.sound t' ht)), fun w hw hs hne => ?_⟩
      rcases hw with hw | hw
      · exact mx w hs (facS _ hw)
      · exact absurd hw hne
  · rcases inV a ha with ha | rfl
    · rw [E a ha]; exact A.keys a ha
    · rw [set_same]; exact List.nodup_nil
  · rcases inV a ha with ha | rfl
    · rw [E a ha] at hk
      rw [L a ha]
      by_cases e : k = N
      · subst e
        obtain ⟨rfl, q1, q2⟩ := (holes a (by assumption) d).mp hk
        rw [LN]
        refine ⟨by simp, .inr (suf_concat q1), .inr rfl, suf_concat q1, fun z hz hs => ?_⟩
        rcases hz with hz | hz
        · exact absurd (sufF _ _ (facS _ hz) hs) q2
        · rw [hz]; exact List.suffix_refl _
      · obtain ⟨k1, k2, k3⟩ := A.edge a ha d k hk (fun z => e (by cases z; rfl))
        rw [L k k1]
        refine ⟨List.mem_append_left _ k1, .inl k2, .inl k3.1, k3.2.1, fun z hz hs => ?_⟩
        rcases hz with hz | hz
        · exact k3.2.2 z hz hs
        · subst hz
          have q := mx _ hs k2
          exact (k3.2.2 v (lt ▸ A.sound t' ht) q).trans hv
    · rw [set_same] at hk
      cases hk
  · rcases inV a ha with ha | rfl
    · rw [L a ha] at hf
      rw [E a ha]
      by_cases q : F (lab a ++ [d])
      · obtain ⟨k, k1, _⟩ := A.edgeF a ha d q
        exact ⟨k, k1, by intro z; cases z⟩
      · have h2 := hf.resolve_left q
        obtain ⟨rfl, h3⟩ := of_suf_concat h2
        exact ⟨N, (holes a ha d).mpr ⟨rfl, h3, q⟩, by intro z; cases z⟩
    · rw [LN] at hf
      rcases hf with h | h
      · exact absurd (iniF _ _ h) nF
      · have := h.length_le
        simp at this
/-- the split keeps the edges to the hole -/
theorem split_holes {hole : Nat} {i j c t d0 : Nat} {p : W} {nd' : Nat → Nd} (T : CanSplit (some hole) F S s0 V nd lab i j c t) (R : Turned lab V (twin nd i j t) i j c t nd') (hp : S p)
    (holes : ∀ m ∈ V, ∀ d, look (nd m).edges d = some hole ↔ d = d0 ∧ lab m <:+ p ∧ ¬ F (lab m ++ [d0])) :
    (∀ m ∈ V ++ [t], ∀ d, look (nd' m).edges d = some hole ↔ d = d0 ∧ setL lab t (lab i ++ [c]) m <:+ p ∧ ¬ F (setL lab t (lab i ++ [c]) m ++ [d0])) ∧ ∀ m, m ∉ V → m ≠ t → nd' m = nd m := by
  have te : ∀ m ∈ V, (twin nd i j t m).edges = (nd m).edges := by
    intro m hm
    by_cases e : m = j
    · subst e; rw [twin_j]
    · rw [twin_o e fun z => T.ht (by rw [← z]; exact hm)]
  refine ⟨fun m hm d => ?_, fun m hm ht => ?_⟩
  · rcases List.mem_append.mp hm with hm | hm
    · have Lm : setL lab t (lab i ++ [c]) m = lab m := setL_ne fun e => T.ht (e ▸ hm)
      rw [Lm, ← holes m hm d]
      by_cases q : lab m <:+ lab i ∧ look (nd m).edges c = some j
      · have q2 : look (twin nd i j t m).edges c = some j := by rw [te m hm]; exact q.2
        rw [R.yes m hm q.1 q2]
        show look (aput (twin nd i j t m).edges c t) d = _ ↔ _
        rw [te m hm, look_aput]
        by_cases e : d = c
        · rw [if_pos e, e, q.2]
          constructor
          · intro z; cases z; exact absurd rfl T.hth
          · intro z; cases z; exact absurd rfl T.hh
        · rw [if_neg e]
      · rw [R.no m fun z => q ⟨z.2.1, by rw [← te m hm]; exact z.2.2⟩, te m hm]
    · have e : m = t := by simpa using hm
      subst e
      rw [setL_same, R.no m fun ⟨h, _⟩ => T.ht h, twin_t T.tj]
      show look (nd j).edges d = _ ↔ _
      rw [holes j T.jm d]
      have X := T.ext
      have e1 : lab j <:+ p ↔ lab i ++ [c] <:+ p := ⟨fun h => X.2.1.trans h, fun h => X.2.2 p hp h⟩
      have e2 : F (lab j ++ [d0]) ↔ F (lab i ++ [c] ++ [d0]) := ⟨fun h => T.G.suf _ _ h (suf_concat X.2.1), fun h => T.G.c2F _ _ d0 T.fw X h⟩
      rw [e1, e2]
  · rw [R.no m fun ⟨h, _⟩ => hm h]
    by_cases e : m = j
    · exact absurd (e ▸ T.jm) hm
    · exact twin_o e ht
end
end Sfx
end
section
set_option linter.all false
/-! What a split and a step leave, told once. -/
namespace Sfx
def PairAt (hs : List (Int × W)) (w : W) (pr : Option (Int × Nat)) : Prop := ∃ n k t, pr = some (n, k) ∧ (n, t) ∈ hs ∧ Occ w t k
theorem PairAt.suf {hs : List (Int × W)} {w v : W} {pr : Option (Int × Nat)} (h : PairAt hs w pr) (s : v <:+ w) : PairAt hs v pr := by
  obtain ⟨n, k, t, e, m, o⟩ := h
  exact ⟨n, k, t, e, m, o.1, s.trans o.2⟩
def Holes (hole : Option Nat) (F : W → Prop) (V : List Nat) (nd : Nat → Nd) (lab : Nat → W) (p : W) (c : Nat) : Prop := ∀ h, hole = some h → ∀ m ∈ V, ∀ d, look (nd m).edges d = some h ↔ d = c ∧ lab m <:+ p ∧ ¬ F (lab m ++ [c])
structure SplitOut (hole : Option Nat) (F S : W → Prop) (hs : List (Int × W)) (s0 : Nat) (V : List Nat) (nd : Nat → Nd) (lab : Nat → W) (w : W) (V' : List Nat) (nd' : Nat → Nd) (lab' : Nat → W) (j : Nat) : Prop where
  A : Aut hole F (fun v => S v ∨ v = w) s0 V' nd' lab'
  jm : j ∈ V'
  lj : lab' j = w
  old : ∀ m ∈ V, lab' m = lab m
  sub : ∀ m ∈ V, m ∈ V'
  holes : ∀ p d, S p → Holes hole F V nd lab p d → Holes hole F V' nd' lab' p d
  atHole : ∀ h, hole = some h → nd' h = nd h
  prs : (∀ m ∈ V, m ≠ s0 → PairAt hs (lab m) (nd m).pair) → ∀ m ∈ V', m ≠ s0 → PairAt hs (lab' m) (nd' m).pair
  s0p : (nd' s0).pair = (nd s0).pair
section
variable {hole : Option Nat} {F S : W → Prop} {hs : List (Int × W)} {s0 : Nat} {V : List Nat} {nd : Nat → Nd} {lab : Nat → W}
/-- nothing to split -/
theorem split_same {i c j : Nat} (A : Aut hole F S s0 V nd lab) (hi : i ∈ V) (hj : look (nd i).edges c = some j) (hh : hole ≠ some j) (sz : (nd j).size = (nd i).size + 1) : SplitOut hole F S hs s0 V nd lab (lab i ++ [c]) V nd lab j := by
  obtain ⟨jm, fw, ex⟩ := A.edge i hi c j hj hh
  have e : lab j = lab i ++ [c] := by
    refine (ex.2.1.eq_of_length ?_).symm
    have h1 := A.size j jm
    have h2 := A.size i hi
    simp
    omega
  refine ⟨A.congr (fun _ => Iff.rfl) fun v => ⟨fun h => h.elim id fun q => by rw [q, ← e]; exact A.sound j jm, .inl⟩, jm, e, fun _ _ => rfl, fun _ h => h, fun _ _ _ h => h, fun _ _ => rfl, fun h => h, rfl⟩
theorem turned_pair {i j c t : Nat} {nd' : Nat → Nd} (R : Turned lab V (twin nd i j t) i j c t nd') (htj : t ≠ j) (ht : t ∉ V) : (∀ m, m ≠ t → (nd' m).pair = (nd m).pair) ∧ (nd' t).pair = (nd j).pair := by
  constructor
  · intro m hm
    have e1 : (nd' m).pair = (twin nd i j t m).pair := by
      by_cases q : m ∈ V ∧ lab m <:+ lab i ∧ look (twin nd i j t m).edges c = some j
      · rw [R.yes m q.1 q.2.1 q.2.2]
      · rw [R.no m q]
    rw [e1]
    by_cases e : m = j
    · subst e; rw [twin_j]
    · rw [twin_o e hm]
  · rw [R.no t fun ⟨h, _⟩ => ht h, twin_t htj]
theorem split_out {i c j t : Nat} {nd' : Nat → Nd} (T : CanSplit hole F S s0 V nd lab i j c t) (R : Turned lab V (twin nd i j t) i j c t nd') : SplitOut hole F S hs s0 V nd lab (lab i ++ [c]) (V ++ [t]) nd' (setL lab t (lab i ++ [c])) t := by
  obtain ⟨p1, p2⟩ := turned_pair R T.tj T.ht
  have L : ∀ m ∈ V, setL lab t (lab i ++ [c]) m = lab m := fun m hm => setL_ne fun e => T.ht (e ▸ hm)
  refine ⟨T.aut R, by simp, setL_same, L, fun m h => List.mem_append_left _ h, fun p d hp hh h eh => ?_, fun h eh => ?_, fun hp m hm ne => ?_, p1 s0 fun e => T.ht (e ▸ T.A.s0m)⟩
  · subst eh
    exact (split_holes T R hp (hh h rfl)).1
  · subst eh
    have hn : h ∉ V := fun z => T.A.nohole h z rfl
    have ht : h ≠ t := fun z => T.hth (by rw [z])
    rw [R.no h fun ⟨z, _⟩ => hn z]
    exact twin_o (fun z => hn (z ▸ T.jm)) ht
  · rcases List.mem_append.mp hm with hm | hm
    · rw [L m hm, p1 m fun e => T.ht (e ▸ hm)]; exact hp m hm ne
    · have e : m = t := by simpa using hm
      subst e
      rw [setL_same, p2]
      exact (hp j T.jm T.j0).suf T.ext.2.1
end
/-- the twin, laid store by store -/
theorem twin_stores {nd : Nat → Nd} {i j t : Nat} (h : t ≠ j) (pr : Option (Int × Nat)) (hp : pr = (nd j).pair) (n1 n2 n3 n4 : Nat → Nd) (h1 : n1 = set nd t { edges := [], link := none, size := (nd i).size + 1, pair := pr })
    (h2 : n2 = set n1 t { n1 t with link := none, edges := (nd j).edges }) (h3 : n3 = set n2 t { n2 t with link := (nd j).link, edges := (n2 t).edges }) (h4 : n4 = set n3 j { n3 j with link := some t, edges := (n3 j).edges }) : n4 = twin nd i j t := by
  subst hp h1 h2 h3 h4
  funext m
  unfold twin
  by_cases e : m = j
  · subst e
    have h' : m ≠ t := Ne.symm h
    simp only [set_same, set_ne h']
  · rw [set_ne e, set_ne e]
    by_cases q : m = t
    · subst q
      simp only [set_same]
    · rw [set_ne q, set_ne q, set_ne q, set_ne q]
/-- the letters that lead on: few -/
theorem edges_few {F S : W → Prop} {s0 : Nat} {V : List Nat} {nd : Nat → Nd} {lab : Nat → W} (A : Aut none F S s0 V nd lab) (al : ∀ x c, F (x ++ [c]) → c < 200) : ∀ m ∈ V, (nd m).edges.length ≤ 200 := fun m hm => by
  have h := List.Nodup.length_le_of_subset (A.keys m hm) (l₂ := List.range 200) fun c hc => by
    obtain ⟨k, hk⟩ := Option.isSome_iff_exists.mp (look_mem.mpr hc)
    exact List.mem_range.mpr (al _ _ (A.edge m hm c k hk (by intro z; cases z)).2.1)
  simpa using h
theorem aput_len {es : List (Nat × Nat)} {c k : Nat} : (aput es c k).length ≤ es.length + 1 := by
  unfold aput
  by_cases h : (es.any fun q => decide (q.1 = c)) = true
  · rw [if_pos h, List.length_map]; omega
  · rw [if_neg h, List.length_append]; simp
theorem aput_len_there {es : List (Nat × Nat)} {c k j : Nat} (h : look es c = some j) : (aput es c k).length = es.length := by
  unfold aput
  rw [look_any, h, if_pos (by rfl), List.length_map]
end Sfx
end
section
set_option linter.all false
/-! A step of the builder, told once. -/
namespace Sfx
structure BInv (hs : List (Int × W)) (Ds : List W) (s0 : Nat) (V : List Nat) (nd : Nat → Nd) (lab : Nat → W) : Prop where
  A : Aut none (Fac Ds) (Can Ds) s0 V nd lab
  prs : ∀ m ∈ V, m ≠ s0 → PairAt hs (lab m) (nd m).pair
  s0p : (nd s0).pair = none
theorem Aut.mem {hole : Option Nat} {F S : W → Prop} {s0 : Nat} {V V' : List Nat} {nd : Nat → Nd} {lab : Nat → W} (A : Aut hole F S s0 V nd lab) (h : ∀ m, m ∈ V' ↔ m ∈ V) : Aut hole F S s0 V' nd lab where
  s0m := (h _).mpr A.s0m
  lab0 := A.lab0
  inj := fun i hi j hj e => A.inj i ((h i).mp hi) j ((h j).mp hj) e
  sound := fun i hi => A.sound i ((h i).mp hi)
  full := fun w hw => let ⟨i, hi, e⟩ := A.full w hw; ⟨i, (h i).mpr hi, e⟩
  size := fun i hi => A.size i ((h i).mp hi)
  link0 := fun i hi => A.link0 i ((h i).mp hi)
  link := fun i hi j e => let ⟨a, b⟩ := A.link i ((h i).mp hi) j e; ⟨(h j).mpr a, b⟩
  keys := fun i hi => A.keys i ((h i).mp hi)
  edge := fun i hi c k e g => let ⟨a, b⟩ := A.edge i ((h i).mp hi) c k e g; ⟨(h k).mpr a, b⟩
  edgeF := fun i hi c f => A.edgeF i ((h i).mp hi) c f
  nohole := fun k hk => A.nohole k ((h k).mp hk)
theorem BInv.mem {hs : List (Int × W)} {Ds : List W} {s0 : Nat} {V V' : List Nat} {nd : Nat → Nd} {lab : Nat → W} (B : BInv hs Ds s0 V nd lab) (h : ∀ m, m ∈ V' ↔ m ∈ V) : BInv hs Ds s0 V' nd lab :=
  ⟨B.A.mem h, fun m hm => B.prs m ((h m).mp hm), B.s0p⟩
section
variable {hs : List (Int × W)} {R : List W} {p : W} {s0 : Nat} {V : List Nat} {nd : Nat → Nd} {lab : Nat → W} {l c : Nat}
theorem ne_app : R ++ [p] ≠ [] := by simp
theorem step_old {j t : Nat} {V' : List Nat} {nd' : Nat → Nd} {lab' : Nat → W} (B : BInv hs (R ++ [p]) s0 V nd lab) (hl : l ∈ V) (e : lab l = p) (hj : look (nd l).edges c = some j)
    (h : SplitOut none (Fac (R ++ [p])) (Can (R ++ [p])) hs s0 V nd lab (lab l ++ [c]) V' nd' lab' t) : BInv hs (R ++ [p ++ [c]]) s0 V' nd' lab' ∧ lab' t = p ++ [c] ∧ t ∈ V' := by
  rw [e] at h
  have f : Fac (R ++ [p]) (p ++ [c]) := e ▸ (B.A.edge l hl c j hj (fun z => by cases z)).2.1
  refine ⟨⟨h.A.congr (fun w => ?_) fun w => ?_, h.prs B.prs, h.s0p.trans B.s0p⟩, h.lj, h.jm⟩
  · rw [fac_step]
    exact ⟨fun q => q.elim id fun s => f.suf s, .inl⟩
  · rw [can_step (v := p ++ [c]) (List.suffix_refl _) f fun u q _ => q]
    constructor
    · rintro (q | q | q)
      · exact .inl q
      · exact .inr q
      · exact .inr q
    · rintro (q | q)
      · exact .inl q
      · exact .inr (.inl q)
theorem lay_pair {N sz : Nat} {pr : Option (Int × Nat)} {cur : Option Nat} {nd' : Nat → Nd} (hN : N ∉ V) (R' : Laying lab V (fresh nd N sz pr) p c N cur nd') {m : Nat} (hm : m ∈ V) : (nd' m).pair = (nd m).pair := by
  have e : fresh nd N sz pr m = nd m := set_ne fun z => hN (z ▸ hm)
  by_cases q : Past lab V p cur m
  · rw [(R'.past m q).2, ← e]
  · rw [R'.other m q, e]
theorem step_none {N sz : Nat} {pr : Option (Int × Nat)} {nd' : Nat → Nd} (B : BInv hs (R ++ [p]) s0 V nd lab) (hl : l ∈ V) (e : lab l = p) (no : look (nd l).edges c = none) (hN : N ∉ V) (hsz : sz = (nd l).size + 1) (hp : PairAt hs (p ++ [c]) pr)
    (L : Laying lab V (fresh nd N sz pr) (lab l) c N none nd') : BInv hs (R ++ [p ++ [c]]) s0 (V ++ [N]) (set nd' N { nd' N with link := some s0 }) (setL lab N (p ++ [c])) := by
  have T : CanAdd (Fac (R ++ [p])) (Can (R ++ [p])) s0 V nd lab l c N := ⟨B.A, good ne_app, hl, no, hN⟩
  obtain ⟨q1, _, q3⟩ := T.laid L (fun x h => by cases h)
  have q3 := q3 rfl
  have nF := T.nF
  rw [B.A.size l hl] at hsz
  subst e
  have G := T.G
  have fnil : Fac (R ++ [lab l]) [] := G.fac _ G.nil
  have C := close_hole (pr := pr) (v := []) (t' := s0) q1.A G.suf G.ini G.fac q1.holes nF hsz B.A.s0m B.A.lab0 hN List.nil_suffix (fun u a b => by rw [q3 u a b]; exact List.suffix_refl _)
  have s0N : s0 ≠ N := fun z => hN (z ▸ B.A.s0m)
  refine ⟨?_, fun m hm ne => ?_, ?_⟩
  · have := C.congr (F' := Fac (R ++ [lab l ++ [c]])) (S' := Can (R ++ [lab l ++ [c]])) (fun w => fac_step) (fun w => by
      rw [can_step (v := []) List.nil_suffix fnil fun u a b => by rw [q3 u a b]; exact List.suffix_refl _]
      constructor
      · rintro (h | h | h)
        · exact .inl h
        · exact .inr h
        · rw [h]; exact .inl G.nil
      · rintro (h | h)
        · exact .inl h
        · exact .inr (.inl h))
    have e : ({ nd' N with link := some s0 } : Nd) = { edges := [], link := some s0, size := sz, pair := pr } := by rw [q1.atN]
    rw [e]
    exact this
  · rcases List.mem_append.mp hm with hm | hm
    · have mN : m ≠ N := fun z => hN (z ▸ hm)
      rw [set_ne mN, setL_ne mN, lay_pair hN L hm]
      exact B.prs m hm ne
    · have mN : m = N := by simpa using hm
      subst mN
      rw [set_same, setL_same, q1.atN]
      exact hp
  · rw [set_ne s0N, lay_pair hN L B.A.s0m]
    exact B.s0p
theorem step_some {N sz x t' : Nat} {pr : Option (Int × Nat)} {nd' nd'' : Nat → Nd} {V'' : List Nat} {lab'' : Nat → W} (B : BInv hs (R ++ [p]) s0 V nd lab) (hl : l ∈ V) (e : lab l = p) (no : look (nd l).edges c = none) (hN : N ∉ V) (hsz : sz = (nd l).size + 1) (hp : PairAt hs (p ++ [c]) pr)
    (L : Laying lab V (fresh nd N sz pr) (lab l) c N (some x) nd') (hx : look (nd x).edges c ≠ none) (h : SplitOut (some N) (Fac (R ++ [p])) (Can (R ++ [p])) hs s0 V nd' lab (lab x ++ [c]) V'' nd'' lab'' t') :
    BInv hs (R ++ [p ++ [c]]) s0 (V'' ++ [N]) (set nd'' N { nd'' N with link := some t' }) (setL lab'' N (p ++ [c])) ∧ N ∉ V'' := by
  have T : CanAdd (Fac (R ++ [p])) (Can (R ++ [p])) s0 V nd lab l c N := ⟨B.A, good ne_app, hl, no, hN⟩
  obtain ⟨q1, q2, _⟩ := T.laid L (fun y h => by cases h; exact hx)
  obtain ⟨x1, x2, x3, x4, x5⟩ := q2 x rfl
  have nF := T.nF
  rw [B.A.size l hl] at hsz
  subst e
  have G := T.G
  have hv : lab x ++ [c] <:+ lab l ++ [c] := suf_concat x2
  have N'' : N ∉ V'' := fun z => h.A.nohole N z rfl
  have facS : ∀ w, (Can (R ++ [lab l]) w ∨ w = lab x ++ [c]) → Fac (R ++ [lab l]) w := fun w q => q.elim (G.fac w) fun z => z ▸ x3
  have hol := h.holes (lab l) c (B.A.sound l hl) fun y ey => by cases ey; exact q1.holes
  have C := close_hole (v := lab x ++ [c]) (t' := t') h.A G.suf G.ini facS (hol N rfl) nF hsz h.jm h.lj N'' hv x5 (pr := pr)
  have s0N : s0 ≠ N := fun z => hN (z ▸ B.A.s0m)
  have aN : nd'' N = { edges := [], link := none, size := sz, pair := pr } := by rw [h.atHole N rfl, q1.atN]
  refine ⟨⟨?_, fun m hm ne => ?_, ?_⟩, N''⟩
  · have := C.congr (F' := Fac (R ++ [lab l ++ [c]])) (S' := Can (R ++ [lab l ++ [c]])) (fun w => fac_step) (fun w => by
      rw [can_step (v := lab x ++ [c]) hv x3 x5]
      constructor
      · rintro (h | h | h)
        · exact .inl (.inl h)
        · exact .inr h
        · exact .inl (.inr h)
      · rintro ((h | h) | h)
        · exact .inl h
        · exact .inr (.inr h)
        · exact .inr (.inl h))
    have e : ({ nd'' N with link := some t' } : Nd) = { edges := [], link := some t', size := sz, pair := pr } := by rw [aN]
    rw [e]
    exact this
  · rcases List.mem_append.mp hm with hm | hm
    · have mN : m ≠ N := fun z => N'' (z ▸ hm)
      rw [set_ne mN, setL_ne mN]
      exact h.prs (fun m hm ne => by rw [lay_pair hN L hm]; exact B.prs m hm ne) m hm ne
    · have mN : m = N := by simpa using hm
      subst mN
      rw [set_same, setL_same, aN]
      exact hp
  · rw [set_ne s0N, h.s0p, lay_pair hN L B.A.s0m]
    exact B.s0p
end
end Sfx
end
section
set_option linter.all false
/-! The chain of a state; the places of a word. -/
namespace Sfx
theorem take_snocM {α : Type} {l : List α} {i : Nat} {x : α} (h : l[i]? = some x) : l.take (i + 1) = l.take i ++ [x] := by
  rw [List.take_add_one, h]; rfl
section
variable {hole : Option Nat} {F S : W → Prop} {s0 : Nat} {V : List Nat} {nd : Nat → Nd} {lab : Nat → W} {w : W}
theorem Aut.past_link {x m : Nat} (A : Aut hole F S s0 V nd lab) (hx1 : x ∈ V) (hx2 : lab x <:+ w) : Past lab V w (nd x).link m ↔ m = x ∨ Past lab V w (some x) m := by
  constructor
  · rintro ⟨m1, m2, m3⟩
    by_cases e : m = x
    · exact .inl e
    · refine .inr ⟨m1, m2, fun y ey => ?_⟩
      cases ey
      rcases Nat.lt_or_ge (lab x).length (lab m).length with l | l
      · exact l
      · exfalso
        have hmx : lab m <:+ lab x := suf_cmp m2 hx2 l
        cases hl : (nd x).link with
        | none =>
          have : x = s0 := (A.link0 x hx1).mp hl
          subst this
          have q : lab m = [] := List.suffix_nil.mp (A.lab0 ▸ hmx)
          exact e (A.inj m m1 _ hx1 (q.trans A.lab0.symm))
        | some y =>
          have := m3 y hl
          have q := (A.link x hx1 y hl).2.2.2 (lab m) (A.sound m m1) hmx (lab_ne A m1 hx1 e)
          have := q.length_le
          omega
  · rintro (e | ⟨m1, m2, m3⟩)
    · subst e
      exact ⟨hx1, hx2, fun y ey => by
        obtain ⟨_, q1, q2, _⟩ := A.link m hx1 y ey
        exact suf_len_lt q1 q2⟩
    · refine ⟨m1, m2, fun y ey => ?_⟩
      obtain ⟨_, q1, q2, _⟩ := A.link x hx1 y ey
      have := suf_len_lt q1 q2
      have := m3 x rfl
      omega
theorem past_none {m : Nat} : Past lab V w none m ↔ m ∈ V ∧ lab m <:+ w := ⟨fun ⟨a, b, _⟩ => ⟨a, b⟩, fun ⟨a, b⟩ => ⟨a, b, fun _ h => by cases h⟩⟩
theorem past_self {x m : Nat} (h : lab x = w) : ¬ Past lab V w (some x) m := fun ⟨_, b, c⟩ => by
  have h1 := c x rfl
  have h2 := b.length_le
  rw [h] at h1
  omega
/-- the state behind a letter more of a word -/
theorem Aut.walk {Ds : List W} {z : W} {c k st : Nat} (A : Aut none (Fac Ds) (Can Ds) s0 V nd lab) (hz : z ∈ Ds) (hs : st ∈ V) (e : lab st = z.take k) (hc : z[k]? = some c) :
    ∃ j, look (nd st).edges c = some j ∧ j ∈ V ∧ lab j = z.take (k + 1) := by
  have e1 : lab st ++ [c] = z.take (k + 1) := by rw [take_snocM hc, e]
  have cz : Can Ds (lab st ++ [c]) := e1 ▸ .inr (.inl ⟨z, hz, List.take_prefix _ _⟩)
  have fz : Fac Ds (lab st ++ [c]) := e1 ▸ Fac.ofPre hz (List.take_prefix _ _)
  obtain ⟨j, hj, hh⟩ := A.edgeF st hs c fz
  exact ⟨j, hj, (A.edge st hs c j hj hh).1, by rw [A.target hs hj hh cz, e1]⟩
end
def occs (n : Int) (z v : W) (k : Nat) : List (Int × Nat) := ((List.range k).filter fun e => v.isSuffixOf (z.take e)).map fun e => (n, e)
theorem occs_yes {n : Int} {z v : W} {k : Nat} (h : v <:+ z.take k) : occs n z v (k + 1) = occs n z v k ++ [(n, k)] := by
  unfold occs
  rw [List.range_succ, List.filter_append, List.map_append, List.filter_cons, if_pos (List.isSuffixOf_iff_suffix.mpr h)]
  rfl
theorem occs_no {n : Int} {z v : W} {k : Nat} (h : ¬ v <:+ z.take k) : occs n z v (k + 1) = occs n z v k := by
  unfold occs
  rw [List.range_succ, List.filter_append, List.map_append, List.filter_cons, if_neg (fun q => h (List.isSuffixOf_iff_suffix.mp q))]
  simp
theorem occs_len {n : Int} {z v : W} {k : Nat} : (occs n z v k).length ≤ k := by
  unfold occs
  rw [List.length_map]
  exact Nat.le_trans (List.length_filter_le _ _) (Nat.le_of_eq (List.length_range))
theorem mem_occs {n m : Int} {z v : W} {k e : Nat} : (m, e) ∈ occs n z v k ↔ m = n ∧ e < k ∧ v <:+ z.take e := by
  unfold occs
  simp only [List.mem_map, List.mem_filter, List.mem_range, Prod.mk.injEq, List.isSuffixOf_iff_suffix]
  constructor
  · rintro ⟨a, ⟨h1, h2⟩, rfl, rfl⟩
    exact ⟨rfl, h1, h2⟩
  · rintro ⟨rfl, h1, h2⟩
    exact ⟨e, ⟨h1, h2⟩, rfl, rfl⟩
end Sfx
end
section
set_option Elab.async false
set_option linter.all false
set_option maxRecDepth 100000
set_option maxHeartbeats 4000000
/-! Own exceptions whose context is None; a list laid over a range while one is handled. -/
namespace Sfx
open PySem PySem.Spec PyProof.Rows L2
theorem takesN {X : Cx} : L2N.Takes X (fun _ _ _ _ => False) := fun _ _ x => by
  obtain ⟨_, _, _, _, _, _, _, _, _, _, _, _, _, _, _, _, z⟩ := x
  exact z.elim
/-- the making of an exception of an own class with an __init__ of its own: its context is None -/
theorem pmk_oexN {X : Cx} {CX : CXT} {x : Str} {e : Expr} {es : List Expr} {ta : TA} {p pos : Pos} {C fI : Addr} {k : Nat} {fd : FuncData} {ps : List Str} {sp : Sp} (T : OexC X.K C) (iC : PySem.W.findIn X.K (.ref C) "__init__" = some (some (.ref fI))) (tI : PySem.W.typeIn X.K (.ref fI) = some (.type "function"))
    (F1 : FnOk X.prog X.w X.K X.mg X.base CX k fI fd ps sp) (hr : Room (k + 1) X.A) (hb : Binds X.K fd ps []) (hx : Passes CX X (fun _ _ _ => False)) (hg : Gl X x) (hm : X.mg x = some (.ref C)) (ha : PA X (e :: es) ta)
    (hdb : (x == ("__debug__" : Str)) = false := by decide) (he : starEach (e :: es) X.env = (false, eval e X.env) :: starEach es X.env := by rfl) (hpl : (backTo pos (starEach es X.env)).any (·.1) = false := by rfl) :
    L2N.PMk X (.Call (.Name x p) (e :: es) [] pos) (tMkO C sp [] ta) := by
  intro pins s σ H Q I h
  obtain ⟨nm, q, N, bs, bm, sn, sub, ab, col, dd, k0, k1, k2, k3, k5, hC, hbm⟩ := T.cls
  refine wpAny_Call_Name_kw (ld_glob I hg hm ?_ hdb)
  refine PySem.W.callWith_K (h₀ := X.base) I.ok.mod.kin T.kC (thn (ha.run pos pins s σ H _ I h) fun us s1 ⟨vs, H1, I1, r1, hz, q1⟩ => ⟨I1.kIn, ?_⟩) he hpl
  show wpAny _ _ (call (.ref C) us) _ _ _
  obtain ⟨hp, g, dr, tk, os⟩ := s1
  have big : hp.objs.size ≤ hp.objs.size + 1 := Nat.le_succ _
  have hq := q1 _ (I1.hok.fresh big)
  rw [List.append_nil] at hq
  have kk : ∀ b o, hp.get? b = some o → ((hp.push (PySem.W.kdv_tup us)).push (PySem.HandSPX.excO C hp.objs.size)).get? b = some o := fun b o e => Heap.get?_push_of_some _ (Heap.get?_push_of_some _ e)
  have hget : ((hp.push (PySem.W.kdv_tup us)).push (PySem.HandSPX.excO C hp.objs.size)).get? (hp.objs.size + 1) = some (PySem.HandSPX.excO C hp.objs.size) := by heap_get
  have I2 := I1.laid (t' := tk) kk big (exo_ok (P := X.prog) (w := X.w) (H := upd H1 (hp.objs.size + 1) (exo (hp.objs.size + 1) C none)) hget)
  have r2 : Vals (V.ref (hp.objs.size + 1) :: vs) (Value.ref (hp.objs.size + 1) :: us) := .cons rfl r1
  have hl : (Value.ref (hp.objs.size + 1) :: us ++ []).length = ps.length := by
    rw [List.append_nil, ← r2.length]
    exact F1.len _ _ _ _ hq
  have hus : us.length ≤ sizeLine := by rw [← Paired.length r1, sizeLine_eq]; omega
  have b2 := hb _ (Value.ref (hp.objs.size + 1) :: us) I2.kIn hl
  rw [List.append_nil] at b2
  refine wpAny_call (PySem.HandSPX.call_own F.excBase_ValueError (fun Y => PySem.HandSPX.refsVE_contains Y bm hbm) (I1.kIn _ _ hC) (PySem.W.looks_findIn I1.kIn iC) (fun self => PySem.W.bind_fn I1.kIn self tI) hus
    (codeAny_mono (F1.run _ X.stack _ _ ⟨Value.ref (hp.objs.size + 1) :: us, []⟩ (Value.ref (hp.objs.size + 1) :: us) _ _ (fun _ _ _ => False) (hr.make C us []) (I2.env0.make C us []) b2 r2 hq) fun r s' hq' => ?_))
  cases r with
  | error er => exact hx pins σ _ _ er s' I2 hq'
  | ok fl =>
    cases fl with
    | ret u =>
      obtain ⟨v, H2, os2, bare2, un2, hok2, rv, ev, d, fs, ea, ed, hd1, q2⟩ := hq'
      subst ev
      obtain ⟨h2, g2, d2, t2, os'⟩ := s'
      obtain ⟨t0, G, J, kG, ge, hoe, na⟩ := mk_end0 (d2 := d2) (t2 := t2) I1 big kk un2 hok2 os2 bare2 ea ed hd1
      exact ⟨rv, hp.objs.size + 1, _, _, ⟨G, g2, d2, t2, os'⟩, _, .ref C, some d, rfl, J, kG, ge, hoe, ⟨rfl, rfl, fun vs hv => by cases hv; rfl⟩, rfl, rfl, na, rfl, bare2, raises_own T.exC T.tyC, q2⟩
    | next => exact False.elim hq'
    | brk => exact False.elim hq'
    | cont => exact False.elim hq'
section
variable {P : Program} {w : World} {K : PySem.W.Frag} {mg : Str → Option Value} {base : Heap}
theorem okXN {x qual : Str} {st : Stmt} {f : Addr} {fd : FuncData} {N ps : List Str} {k : Nat} {sp : Sp} (F : Fun K x qual st f fd) (S : FnScope N ps (defScope st)) (len : ∀ vs H Q E, sp vs H Q E → vs.length = ps.length)
    (hbody : ∀ (cdv : Value) (A : Around) (outer : List Env) (s : Shared) (H : Hp) (vs : List V) (Q : VK) (E : XK), Room k (A.deeper (envOfC qual (defScope st) s.heap.objs.size f cdv)) → sp vs H Q E →
      ∃ t, PSs (cxOf (L2N.CX P w) P w K mg base N qual (defScope st) f cdv A outer s H E) (defBody st) t ∧ t { nx := fun _ H' => Q .non H', rt := Q } (start N vs) H) : FnOk P w K mg base (L2N.CX P w) (k + 1) f fd ps sp := by
  obtain ⟨oc, od, kV, doc, pm, an, cdv, ct, osl, rfl, lk, hcd⟩ := F.ex
  exact fn_of lk hcd S len fun A outer s H vs Q E hr hsp => hbody cdv A outer s H vs Q E hr hsp
end
end Sfx
end
section
set_option Elab.async false
set_option linter.all false
set_option maxRecDepth 100000
set_option maxHeartbeats 4000000
namespace Sfx
open PySem PySem.Spec L2
/-! ### the text by places -/
def topS (i : Nat) : Stmt := PySem.Challenge.pw_suffixhouse_k44_whole_houses_under_chang.main.body.getD i (.Pass ⟨0, 0, 0, 0⟩)
/-! ### callee's facts, bundled -/
section
variable (P : Program) (w : World) (K : PySem.W.Frag) (mg : Str → Option Value) (base : Heap)
structure HasF (CX : CXT) (nm : Str) (k : Nat) (ps : List Str) (sp : Sp) : Prop where
  ex : ∃ f fd, FnOk P w K mg base CX k f fd ps sp ∧ mg nm = some (.ref f) ∧ PySem.W.keepIn K (.ref f) = true ∧ Binds K fd ps []
structure HasM (CX : CXT) (C : Addr) (nm : Str) (k : Nat) (ps : List Str) (sp : Sp) : Prop where
  ex : ∃ f fd, FnOk P w K mg base CX k f fd ps sp ∧ Meth K C nm f ∧ Binds K fd ps []
  cl : Cls K C
structure HasC (CX : CXT) (nm : Str) (C : Addr) (k : Nat) (ps : List Str) (sp : Sp) : Prop where
  ex : ∃ f fd, FnOk P w K mg base CX k f fd ps sp ∧ Mk K C f ∧ mg nm = some (.ref C) ∧ Binds K fd ps []
end
section
variable {X : Cx} {CX : CXT} {k : Nat} {C : Addr} {ps : List Str} {sp : Sp} {E : St → XK} {x m : Str} {p pos apos : Pos} {e o : Expr} {es : List Expr} {ta : TE} {t : TA}
theorem p0 (σ : St) : PassesAt CX0 X σ E0 := fun _ _ _ _ _ _ h => h.elim
theorem pL (σ : St) : PassesAt (L2N.CX X.prog X.w) X σ E0 := fun _ _ _ _ _ _ h => by
  obtain ⟨_, _, _, _, _, _, _, _, _, _, _, _, z⟩ := h
  exact z.elim
theorem pe_callG (F : HasF X.prog X.w X.K X.mg X.base CX x k ps sp) (hr : Room k X.A) (hx : ∀ σ, PassesAt CX X σ (E σ)) (ha : PA X (e :: es) t) (hg : Gl X x := by rfl)
    (hdb : (x == ("__debug__" : Str)) = false := by decide) (he : starEach (e :: es) X.env = (false, eval e X.env) :: starEach es X.env := by rfl) (hpl : (backTo pos (starEach es X.env)).any (·.1) = false := by rfl) :
    PE X (.Call (.Name x p) (e :: es) [] pos) (tCallS sp E t) := by
  obtain ⟨f, fd, F, hm, hk, hb⟩ := F.ex
  exact pe_callS F hr hg hm hk hb hx ha hdb he hpl
def tMethS (C : Addr) (m : Str) (sp : Sp) (E : St → XK) (ta : TE) (t : TA) : TE := fun σ H Q => ta σ H fun x H1 => ∃ a dx fs, x = .ref a ∧ H1 a = some (.ins C dx fs) ∧ fs.lookup m = none ∧ t σ H1 fun vs H2 => sp (x :: vs) H2 Q (E σ)
theorem pe_methG {pl : Sem Bool} (he : PE X o ta) (F : HasM X.prog X.w X.K X.mg X.base CX C m k ps sp) (hr : Room k X.A) (hx : ∀ σ, PassesAt CX X σ (E σ)) (ha : PA X (e :: es) t)
    (hst : starEach (e :: es) X.env = (false, eval e X.env) :: starEach es X.env := by rfl) (hpl : (backTo pos (starEach es X.env)).any (·.1) = false := by rfl)
    (ht : eval (.Call (.Attribute o m apos) (e :: es) [] pos) X.env = (do
      let ov ← eval o X.env
      standAt apos.atName
      let (f, first) ← holding [ov] (getMethod ov m pl)
      callWith pos f first (backTo pos (starEach (e :: es) X.env)) (backToKw pos (keywordEach [] X.env))) := by rfl) :
    PE X (.Call (.Attribute o m apos) (e :: es) [] pos) (tMethS C m sp E ta t) := by
  have c := F.cl
  obtain ⟨f, fd, F, hm, hb⟩ := F.ex
  refine ⟨fun pins s σ H Q I h => ?_⟩
  refine PySem.W.methodCall_KW (pl := pl) (thn (he.run pins s σ H _ I h) fun u s1 ⟨x, H1, I1, rx, a, dx, fs, ex, ea, l, q⟩ => ?_) ht
  subst ex
  obtain rfl : u = Value.ref a := rx
  refine getmeth_ok I1 ea c hm l ?_
  refine PySem.W.callWith_K (first := [.ref a]) (h₀ := X.base) I.ok.mod.kin hm.kp (thn (ha.run pos pins s1 σ H1 _ I1 q) fun us s2 ⟨vs, H2, I2, r, q2⟩ => ⟨I2.kIn, ?_⟩) hst hpl
  exact run_fnS (us := .ref a :: us) (vs := .ref a :: vs) F hr hb (hx σ) I2 (.cons rfl r) q2
theorem pe_methG0 {pl : Sem Bool} (he : PE X o ta) (F : HasM X.prog X.w X.K X.mg X.base CX C m k ps sp) (hr : Room k X.A) (hx : ∀ σ, PassesAt CX X σ (E σ))
    (ht : eval (.Call (.Attribute o m apos) [] [] pos) X.env = (do
      let ov ← eval o X.env
      standAt apos.atName
      let (f, first) ← holding [ov] (getMethod ov m pl)
      callWith pos f first (backTo pos (starEach [] X.env)) (backToKw pos (keywordEach [] X.env))) := by rfl) :
    PE X (.Call (.Attribute o m apos) [] [] pos) (tMethS C m sp E ta tNil) := by
  have c := F.cl
  obtain ⟨f, fd, F, hm, hb⟩ := F.ex
  refine ⟨fun pins s σ H Q I h => ?_⟩
  refine PySem.W.methodCall_KW (pl := pl) (thn (he.run pins s σ H _ I h) fun u s1 ⟨x, H1, I1, rx, a, dx, fs, ex, ea, l, q⟩ => ?_) ht
  subst ex
  obtain rfl : u = Value.ref a := rx
  refine getmeth_ok I1 ea c hm l ?_
  exact PySem.W.callWith_K0 (first := [.ref a]) I1.kIn hm.kp (run_fnS (us := [.ref a]) (vs := [.ref a]) F hr hb (hx σ) I1 (.cons rfl .nil) q)
theorem pe_makeG (F : HasC X.prog X.w X.K X.mg X.base CX0 x C k ps sp) (hr : Room (k + 1) X.A) (ha : PA X (e :: es) t) (hg : Gl X x := by rfl)
    (hdb : (x == ("__debug__" : Str)) = false := by decide) (he : starEach (e :: es) X.env = (false, eval e X.env) :: starEach es X.env := by rfl) (hpl : (backTo pos (starEach es X.env)).any (·.1) = false := by rfl) :
    PE X (.Call (.Name x p) (e :: es) [] pos) (tMake C sp [] E0 t) := by
  obtain ⟨f, fd, F, M, hm, hb⟩ := F.ex
  exact pe_make M F hr hg hm hb .nil pass0 ha hdb he hpl
theorem pe_makeG0 (F : HasC X.prog X.w X.K X.mg X.base CX0 x C k ps sp) (hr : Room (k + 1) X.A) (hg : Gl X x := by rfl)
    (hdb : (x == ("__debug__" : Str)) = false := by decide) :
    PE X (.Call (.Name x p) [] [] pos) (tMake C sp [] E0 tNil) := by
  obtain ⟨f, fd, F, M, hm, hb⟩ := F.ex
  exact pe_make0 M F hr hg hm hb .nil pass0 hdb
/-- a module's whole number -/
theorem pe_globI {i : Int} (h : ∃ t, X.mg x = some (.int i t)) (hg : Gl X x := by rfl) (hd : (x == ("__debug__" : Str)) = false := by decide) : PE X (.Name x pos) (tC (.int i)) := by
  obtain ⟨t, h⟩ := h
  exact pe_glob hg h ⟨_, rfl⟩ hd
end
theorem if_pos_of {c : Prop} [Decidable c] {A B : Prop} (h : c) (a : A) : if c then A else B := by rw [if_pos h]; exact a
theorem if_neg_of {c : Prop} [Decidable c] {A B : Prop} (h : ¬ c) (b : B) : if c then A else B := by rw [if_neg h]; exact b
/-! ### heaps -/
theorem same_upd {H : Hp} {p : Addr} {o : HO} (h : H p = none) : Same H (upd H p o) := fun b u e => by rw [upd_ne (ne_of_none e h)]; exact e
theorem same_to {H0 H : Hp} {p : Addr} {o : HO} (s : Same H0 H) (h : H p = none) : Same H0 (L2.upd H p o) := s.trans (same_upd h)
/-- a change of an object that stood not there at first -/
theorem same_wr {H0 H : Hp} {p : Addr} {o : HO} (s : Same H0 H) (h : H0 p = none) : Same H0 (L2.upd H p o) := fun b u e => by
  rw [upd_ne (ne_of_none e h)]; exact s b u e
/-! ### rows of values: lists of tuples -/
/-- a list at a, of tuples, their items the rows -/
def LT (H : Hp) (a : Addr) (rows : List (List V)) : Prop := ∃ ps : List Addr, H a = some (.lst (ps.map V.ref)) ∧ Paired (fun p r => H p = some (.tup r)) ps rows
theorem paired_imp {α β : Type} {F G : α → β → Prop} (h : ∀ a b, F a b → G a b) : ∀ {l : List α} {m : List β}, Paired F l m → Paired G l m
  | _, _, .nil => .nil
  | _, _, .cons a t => .cons (h _ _ a) (paired_imp h t)
theorem paired_get {α β : Type} {F : α → β → Prop} : ∀ {l : List α} {m : List β} {i : Nat} {y : β}, Paired F l m → m[i]? = some y → ∃ x, l[i]? = some x ∧ F x y
  | _, _, _, _, .nil, h => by simp at h
  | _, _, 0, _, .cons a _, h => by simp at h; subst h; exact ⟨_, rfl, a⟩
  | _, _, i + 1, _, .cons _ t, h => by
    obtain ⟨x, h1, h2⟩ := paired_get (i := i) t (by simpa using h)
    exact ⟨x, by simpa using h1, h2⟩
theorem paired_get1 {α β : Type} {F : α → β → Prop} : ∀ {l : List α} {m : List β} {i : Nat} {x : α}, Paired F l m → l[i]? = some x → ∃ y, m[i]? = some y ∧ F x y
  | _, _, _, _, .nil, h => by simp at h
  | _, _, 0, _, .cons a _, h => by simp at h; subst h; exact ⟨_, rfl, a⟩
  | _, _, i + 1, _, .cons _ t, h => by
    obtain ⟨x, h1, h2⟩ := paired_get1 (i := i) t (by simpa using h)
    exact ⟨x, by simpa using h1, h2⟩
theorem paired_len {α β : Type} {F : α → β → Prop} {l : List α} {m : List β} (h : Paired F l m) : l.length = m.length := Paired.length h
theorem paired_app {α β : Type} {F : α → β → Prop} : ∀ {l l' : List α} {m m' : List β}, Paired F l m → Paired F l' m' → Paired F (l ++ l') (m ++ m')
  | _, _, _, _, .nil, s => s
  | _, _, _, _, .cons a t, s => .cons a (paired_app t s)
theorem LT.same {H H' : Hp} {a : Addr} {rows : List (List V)} (h : LT H a rows) (s : Same H H') : LT H' a rows := by
  obtain ⟨ps, h1, h2⟩ := h
  exact ⟨ps, s _ _ h1, paired_imp (fun _ _ e => s _ _ e) h2⟩
/-- a house's row -/
def hrow (t : Int × Str) : List V := [.int t.1, .str t.2]
def prow (t : Int × Int) : List V := [.int t.1, .int t.2]
def txt : List (Int × Str) → Int → Option Str
  | [], _ => none
  | (m, z) :: r, n => if m = n then some z else txt r n
theorem txt_take : ∀ {ts : List (Int × Str)} {n : Int} {i : Nat} {m : Int} {z : Str}, ts[i]? = some (m, z) → txt (ts.take i) n = none → txt (ts.take (i + 1)) n = if m = n then some z else none
  | [], _, _, _, _, h, _ => by simp at h
  | (m', z') :: r, n, 0, m, z, h, _ => by
    simp at h
    obtain ⟨rfl, rfl⟩ := h
    simp [txt]
  | (m', z') :: r, n, i + 1, m, z, h, g => by
    simp only [List.take_succ_cons, txt] at g ⊢
    by_cases e : m' = n
    · rw [if_pos e] at g; cases g
    · rw [if_neg e] at g ⊢
      exact txt_take (by simpa using h) g
theorem txt_of_take : ∀ {ts : List (Int × Str)} {n : Int} {i : Nat} {z : Str}, txt (ts.take i) n = some z → txt ts n = some z
  | [], _, _, _, h => by simp [txt] at h
  | _ :: _, _, 0, _, h => by simp [txt] at h
  | (m', z') :: r, n, i + 1, z, h => by
    simp only [List.take_succ_cons, txt] at h ⊢
    by_cases e : m' = n
    · rw [if_pos e] at h ⊢; exact h
    · rw [if_neg e] at h ⊢; exact txt_of_take h

/-! ### the errors -/
/-- HouseError.__init__ -/
def spHE (K : PySem.W.Frag) : Sp := fun vs H Q _ => ∃ (a C : Addr) (n : Int), vs = [.ref a, .int n] ∧ OexC K C ∧ PySem.W.findIn K (.ref C) "at" = some none ∧ H a = some (exo a C none) ∧
  ∀ dx, H dx = none → dx ≠ a → Q .non (upd (upd H dx (exd dx [(("at" : Str), .int n)])) a (exo a C (some dx)))
structure HasE (P : Program) (w : World) (K : PySem.W.Frag) (mg : Str → Option Value) (base : Heap) (x : Str) (C : Addr) : Prop where
  o : OexC K C
  at_ : PySem.W.findIn K (.ref C) "at" = some none
  gl : mg x = some (.ref C)
  ex : ∃ f fd, PySem.W.findIn K (.ref C) "__init__" = some (some (.ref f)) ∧ PySem.W.typeIn K (.ref f) = some (.type "function") ∧ FnOk P w K mg base CX0 1 f fd ["self", "at"] (spHE K) ∧ Binds K fd ["self", "at"] []
theorem PS_imp {X : Cx} {st : Stmt} {t t' : TS} (h : PS X st t) (i : ∀ D σ H, t' D σ H → t D σ H) : PS X st t' := ⟨fun pins s σ H D I q => h.run pins s σ H D I (i _ _ _ q)⟩
def tRaiseH (C : Addr) (W : WX) (te : TE) : TS := fun _ σ H => te σ H fun v H1 => ∃ n : Int, v = .int n ∧ ∀ d H', Same H1 H' → H1 d = none → H' d = some (.xd [(("at" : Str), .int n)]) → W (.ref C) (some d) σ H'
section
variable {X : Cx} {C : Addr} {x : Str} {p pos pos2 : Pos} {e : Expr} {te : TE} {W : WX}
def tW (te : TE) : TE := fun σ H Q => ∃ Q0 : VK, te σ H Q0 ∧ ∀ v H', Q0 v H' → Q v H'
theorem PE_w (h : PE X e te) : PE X e (tW te) := ⟨fun pins s σ H Q I ⟨Q0, q, i⟩ => thn (h.run pins s σ H Q0 I q) fun _ _ ⟨v, H', J, r, z⟩ => ⟨v, H', J, r, i _ _ z⟩⟩
theorem ps_raiseE (tk : L2N.Takes X W) (F : HasE X.prog X.w X.K X.mg X.base x C) (hr : Room 2 X.A) (he : PE X e te) (hc : X.calm = true := by rfl) (hg : Gl X x := by rfl) (hdb : (x == ("__debug__" : Str)) = false := by decide)
    (he1 : starEach [e] X.env = (false, eval e X.env) :: starEach [] X.env := by rfl) (hpl : (backTo pos (starEach [] X.env)).any (·.1) = false := by rfl) :
    PS X (.Raise (some (.Call (.Name x p) [e] [] pos)) none pos2) (tRaiseH C W te) := by
  obtain ⟨f, fd, h1, h2, h3, h4⟩ := F.ex
  refine PS_imp (L2N.ps_raise hc tk (pmk_oexN F.o h1 h2 h3 hr h4 pass0 hg F.gl (pa_cons (PE_w he) pa_nil he1) hdb he1 hpl)) ?_
  intro D σ H h
  refine ⟨_, h, fun v H1 ⟨n, ev, q⟩ => ?_⟩
  subst ev
  refine ⟨by show 1 ≤ 1000; decide, fun a ha => ?_⟩
  refine ⟨a, C, n, rfl, F.o, F.at_, upd_same, fun dx hd hne => ⟨rfl, dx, [(("at" : Str), V.int n)], upd_same, ?_, ?_, ?_⟩⟩
  · rw [upd_ne hne, upd_same]
  · rw [upd_ne hne] at hd; exact hd
  · have hd1 : H1 dx = none := by rw [upd_ne hne] at hd; exact hd
    refine q dx _ (fun b o eb => ?_) hd1 upd_same
    have n1 := ne_of_none eb hd1
    have n2 := ne_of_none eb ha
    rw [upd_ne n1, del_ne n2, upd_ne n2, upd_ne n1, upd_ne n2]
    exact eb
end
/-! ### loops over lists of tuples -/
theorem for_LT {K : PySem.W.Frag} {a : Addr} {rows : List (List V)} {g : TG} {tb : TS} {D : Ends} {σ : St} {H H0 : Hp} (hL : LT H0 a rows) (Pv : Nat → St → Hp → Prop) (h0 : Pv 0 σ H) (hl : ∀ i σ H', i ≤ rows.length → Pv i σ H' → Same H0 H')
    (hs : ∀ i r p σ H', rows[i]? = some r → H' p = some (.tup r) → Pv i σ H' → g (.ref p) σ H' fun σ2 H2 => tb { D with nx := Pv (i + 1), ct := Pv (i + 1), bk := D.nx } σ2 H2) (hd : ∀ σ H', Pv rows.length σ H' → D.nx σ H') :
    ∃ W : Nat → Nat → St → Hp → Prop, (∃ m, W 0 m σ H) ∧ ∀ i m σ H, W i m σ H →
      ((Itl K a).stop i H ∧ D.nx σ H) ∨ ((Itl K a).go i H ∧ ∃ N : St → Hp → Prop, (∀ σ' H', N σ' H' → ∃ m', m' < m ∧ W (i + 1) m' σ' H') ∧ ∀ x H', (Itl K a).yld i H x H' → g x σ H' fun σ2 H2 => tb { D with nx := N, ct := N, bk := D.nx } σ2 H2) := by
  obtain ⟨ps, h1, h2⟩ := hL
  have len : (ps.map V.ref).length = rows.length := by rw [List.length_map]; exact paired_len h2
  refine for_list (K := K) (a := a) (xs := ps.map V.ref) Pv h0 (fun i σ H' hi p => SqL.of (hl i σ H' (len ▸ hi) p _ _ h1)) (fun i x σ H' hx p => ?_) (fun σ H' p => hd σ H' (len ▸ p))
  rw [List.getElem?_map] at hx
  obtain ⟨q, hq, rfl⟩ := Option.map_eq_some_iff.mp hx
  obtain ⟨r, r1, r2⟩ := paired_get1 h2 hq
  exact hs i r q σ H' r1 (hl i σ H' (by rw [← paired_len h2]; exact Nat.le_of_lt (List.getElem?_eq_some_iff.mp hq).1) p _ _ r2) p
theorem lc_LT {K : PySem.W.Frag} {a : Addr} {rows : List (List V)} {g : TG} {tt : TT} {te : TE} {vs : List Nat} {σ : St} {H1 H0 : Hp} {D : Addr} {Qd : Hp → Prop} (hL : LT H0 a rows) (Pv : Nat → Hp → Prop) (h0 : Pv 0 (upd H1 D (.lst []))) (hl : ∀ i H, i ≤ rows.length → Pv i H → Same H0 H)
    (hs : ∀ i r p H, rows[i]? = some r → H p = some (.tup r) → Pv i H → g (.ref p) (wipe σ vs) H fun σ2 H2 => wipe σ2 vs = wipe σ vs ∧ tt σ2 H2 fun b H3 =>
      if b = true then te σ2 H3 fun y H4 => ∃ acc, H4 D = some (.lst acc) ∧ acc.length < sizeLine ∧ Pv (i + 1) (upd H4 D (.lst (acc ++ [y]))) else Pv (i + 1) H3) (hd : ∀ H, Pv rows.length H → Qd H) :
    ∃ W : Nat → Nat → Hp → Prop, (∃ m, W 0 m (upd H1 D (.lst []))) ∧ ∀ i m H, W i m H →
      ((Itl K a).stop i H ∧ Qd H) ∨ ((Itl K a).go i H ∧ ∃ Nx : Hp → Prop, (∀ H', Nx H' → ∃ m', m' < m ∧ W (i + 1) m' H') ∧ ∀ x H', (Itl K a).yld i H x H' → g x (wipe σ vs) H' fun σ2 H2 => wipe σ2 vs = wipe σ vs ∧ tt σ2 H2 fun b H3 =>
        if b = true then te σ2 H3 fun y H4 => ∃ acc, H4 D = some (.lst acc) ∧ acc.length < sizeLine ∧ Nx (upd H4 D (.lst (acc ++ [y]))) else Nx H3) := by
  obtain ⟨ps, h1, h2⟩ := hL
  have len : (ps.map V.ref).length = rows.length := by rw [List.length_map]; exact paired_len h2
  refine lc_list (K := K) (a := a) (xs := ps.map V.ref) Pv h0 (fun i H' hi p => SqL.of (hl i H' (len ▸ hi) p _ _ h1)) (fun i x H' hx p => ?_) (fun H' p => hd H' (len ▸ p))
  rw [List.getElem?_map] at hx
  obtain ⟨q, hq, rfl⟩ := Option.map_eq_some_iff.mp hx
  obtain ⟨r, r1, r2⟩ := paired_get1 h2 hq
  exact hs i r q H' r1 (hl i H' (by rw [← paired_len h2]; exact Nat.le_of_lt (List.getElem?_eq_some_iff.mp hq).1) p _ _ r2) p
section
variable {K : PySem.W.Frag} {p : Addr} {x y z u : V} {σ : St} {H : Hp} {Q : St → Hp → Prop} {i j k l n : Nat}
theorem g2 (h : H p = some (.tup [x, y])) (q : Q ((σ.set i (some x)).set j (some y)) H) (hn : 2 = n := by rfl) : gTup K n (gCons (gName i) (gCons (gName j) gNil)) (.ref p) σ H Q :=
  ⟨p, _, rfl, SqT.of h, hn, x, _, rfl, y, _, rfl, rfl, q⟩
theorem g3 (h : H p = some (.tup [x, y, z])) (q : Q (((σ.set i (some x)).set j (some y)).set k (some z)) H) (hn : 3 = n := by rfl) : gTup K n (gCons (gName i) (gCons (gName j) (gCons (gName k) gNil))) (.ref p) σ H Q :=
  ⟨p, _, rfl, SqT.of h, hn, x, _, rfl, y, _, rfl, z, _, rfl, rfl, q⟩
theorem g4 (h : H p = some (.tup [x, y, z, u])) (q : Q ((((σ.set i (some x)).set j (some y)).set k (some z)).set l (some u)) H) (hn : 4 = n := by rfl) : gTup K n (gCons (gName i) (gCons (gName j) (gCons (gName k) (gCons (gName l) gNil)))) (.ref p) σ H Q :=
  ⟨p, _, rfl, SqT.of h, hn, x, _, rfl, y, _, rfl, z, _, rfl, u, _, rfl, rfl, q⟩
end
/-! ### over a text's signs -/
theorem for_str {x : Str} {g : TG} {tb : TS} {D : Ends} {σ : St} {H : Hp} (Pv : Nat → St → Hp → Prop) (h0 : Pv 0 σ H)
    (hs : ∀ i c σ H, x.cps.toList[i]? = some c → Pv i σ H → g (.str ⟨#[c]⟩) σ H fun σ2 H2 => tb { D with nx := Pv (i + 1), ct := Pv (i + 1), bk := D.nx } σ2 H2) (hd : ∀ σ H, Pv x.cps.toList.length σ H → D.nx σ H) :
    ∃ W : Nat → Nat → St → Hp → Prop, (∃ m, W 0 m σ H) ∧ ∀ i m σ H, W i m σ H →
      ((Its x).stop i H ∧ D.nx σ H) ∨ ((Its x).go i H ∧ ∃ N : St → Hp → Prop, (∀ σ' H', N σ' H' → ∃ m', m' < m ∧ W (i + 1) m' σ' H') ∧ ∀ v H', (Its x).yld i H v H' → g v σ H' fun σ2 H2 => tb { D with nx := N, ct := N, bk := D.nx } σ2 H2) := by
  refine ⟨fun i m σ H => m = x.cps.toList.length - i ∧ i ≤ x.cps.toList.length ∧ Pv i σ H, ⟨_, rfl, Nat.zero_le _, h0⟩, ?_⟩
  rintro i m σ H ⟨rfl, hi, p⟩
  by_cases hlt : i < x.cps.toList.length
  · refine .inr ⟨hlt, Pv (i + 1), fun σ' H' p' => ⟨x.cps.toList.length - (i + 1), by omega, rfl, hlt, p'⟩, fun v H' y => ?_⟩
    obtain ⟨e, c, hc, ev⟩ := y
    subst e ev
    exact hs i c σ _ (by rw [← hc]; simp) p
  · have e : i = x.cps.toList.length := by omega
    subst e
    exact .inl ⟨Nat.le_refl _, hd σ H p⟩
theorem lc_str {x : Str} {g : TG} {tt : TT} {te : TE} {vs : List Nat} {σ : St} {H1 : Hp} {D : Addr} {Qd : Hp → Prop} (Pv : Nat → Hp → Prop) (h0 : Pv 0 (upd H1 D (.lst [])))
    (hs : ∀ i c H, x.cps.toList[i]? = some c → Pv i H → g (.str ⟨#[c]⟩) (wipe σ vs) H fun σ2 H2 => wipe σ2 vs = wipe σ vs ∧ tt σ2 H2 fun b H3 =>
      if b = true then te σ2 H3 fun y H4 => ∃ acc, H4 D = some (.lst acc) ∧ acc.length < sizeLine ∧ Pv (i + 1) (upd H4 D (.lst (acc ++ [y]))) else Pv (i + 1) H3) (hd : ∀ H, Pv x.cps.toList.length H → Qd H) :
    ∃ W : Nat → Nat → Hp → Prop, (∃ m, W 0 m (upd H1 D (.lst []))) ∧ ∀ i m H, W i m H →
      ((Its x).stop i H ∧ Qd H) ∨ ((Its x).go i H ∧ ∃ Nx : Hp → Prop, (∀ H', Nx H' → ∃ m', m' < m ∧ W (i + 1) m' H') ∧ ∀ v H', (Its x).yld i H v H' → g v (wipe σ vs) H' fun σ2 H2 => wipe σ2 vs = wipe σ vs ∧ tt σ2 H2 fun b H3 =>
        if b = true then te σ2 H3 fun y H4 => ∃ acc, H4 D = some (.lst acc) ∧ acc.length < sizeLine ∧ Nx (upd H4 D (.lst (acc ++ [y]))) else Nx H3) := by
  refine ⟨fun i m H => m = x.cps.toList.length - i ∧ i ≤ x.cps.toList.length ∧ Pv i H, ⟨_, rfl, Nat.zero_le _, h0⟩, ?_⟩
  rintro i m H ⟨rfl, hi, p⟩
  by_cases hlt : i < x.cps.toList.length
  · refine .inr ⟨hlt, Pv (i + 1), fun H' p' => ⟨x.cps.toList.length - (i + 1), by omega, rfl, hlt, p'⟩, fun v H' y => ?_⟩
    obtain ⟨e, c, hc, ev⟩ := y
    subst e ev
    exact hs i c _ (by rw [← hc]; simp) p
  · have e : i = x.cps.toList.length := by omega
    subst e
    exact .inl ⟨Nat.le_refl _, hd H p⟩
/-! ### rules whose readings name the written part by a letter of its own (within comprehensions) -/
section
variable {X : Cx}
theorem ixT (K : PySem.W.Frag) (h : X.K = K := by rfl) : IxR X (rIxT K) := by subst h; exact ix_tup
theorem ixL (K : PySem.W.Frag) (h : X.K = K := by rfl) : IxR X (rIxL K) := by subst h; exact ix_list
def rLenQ (K : PySem.W.Frag) : List V → Hp → VK → Prop := fun xs H Q => ∃ p ys, xs = [.ref p] ∧ (SqL K H p ys ∨ SqT K H p ys) ∧ Q (.int (ys.length : Nat)) H
theorem lenQ (K : PySem.W.Frag) (h : X.K = K := by rfl) : CallR X (.builtin "len") (rLenQ K) := by subst h; exact call_len_seq
theorem slL (K : PySem.W.Frag) (h : X.K = K := by rfl) : SlR X (rSlL K) := by subst h; exact sl_list
theorem inSeq (K : PySem.W.Frag) (h : X.K = K := by rfl) : OpR X (compareOp .In) (rIn K false) := by subst h; exact op_in_seq
theorem inD (K : PySem.W.Frag) (hu : X.A.units + 65 < cLine) (h : X.K = K := by rfl) : OpR X (compareOp .In) (rInD K) := by subst h; exact op_inD hu
theorem allK (K : PySem.W.Frag) (hc : X.calm = true := by rfl) (h : X.K = K := by rfl) : CallR X (.builtin "all") (rAll K) := by subst h; exact cr_all hc
end
/-! ### ways that meet -/
def tMeet (t u : TS) : TS := fun D σ H => ∃ Mid : St → Hp → Prop, t { D with nx := Mid } σ H ∧ ∀ σ' H', Mid σ' H' → u D σ' H'
theorem pss_cut {X : Cx} {st : Stmt} {rest : List Stmt} {t u : TS} (h1 : PS X st t) (h2 : PSs X rest u) : PSs X (st :: rest) (tMeet t u) := by
  refine ⟨fun pins s σ H D I h => ?_⟩
  obtain ⟨Mid, hm, hu⟩ := h
  refine PySem.wpAny_execs_cons (thn (h1.run pins s σ H { D with nx := Mid } I hm) fun f s1 q => ?_)
  cases f with
  | next =>
    obtain ⟨σ', H', I', q⟩ := q
    exact h2.run pins s1 σ' H' D I' (hu _ _ q)
  | ret v => exact q
  | brk => exact q
  | cont => exact q
end Sfx
end
section
set_option Elab.async false
set_option linter.all false
set_option maxRecDepth 100000
set_option maxHeartbeats 4000000
/-! Defs that are promised where no repr is under way. -/
namespace Sfx
open PySem PySem.Spec PyProof.Rows L2
structure FnOkG (P : Program) (w : World) (K : PySem.W.Frag) (mg : Str → Option Value) (base : Heap) (k : Nat) (f : Addr) (fd : FuncData) (ps : List Str) (sp : Sp) : Prop where
  len : ∀ vs H Q E, sp vs H Q E → vs.length = ps.length
  run : ∀ (A : Around) (outer : List Env) (s : Shared) (H : Hp) (args : Args) (us : List Value) (vs : List V) (Q : VK) (E : XK), A.guards = some [] → Room k A → Env0 P w K mg base A outer s H → BindsTo s fd args (ps.zip us) → Vals vs us → sp vs H Q E →
    codeAny (model P w) A (.call (.ref f) args) (CR CX0 outer P w H s Q E) s
section
variable {P : Program} {w : World} {K : PySem.W.Frag} {mg : Str → Option Value} {base : Heap}
theorem okG {x qual : Str} {st : Stmt} {f : Addr} {fd : FuncData} {N ps : List Str} {k : Nat} {sp : Sp} (F : Fun K x qual st f fd) (S : FnScope N ps (defScope st)) (len : ∀ vs H Q E, sp vs H Q E → vs.length = ps.length)
    (hbody : ∀ (cdv : Value) (A : Around) (outer : List Env) (s : Shared) (H : Hp) (vs : List V) (Q : VK) (E : XK), (A.deeper (envOfC qual (defScope st) s.heap.objs.size f cdv)).guards = some [] → Room k (A.deeper (envOfC qual (defScope st) s.heap.objs.size f cdv)) → sp vs H Q E →
      ∃ t, PSs (cxOf CX0 P w K mg base N qual (defScope st) f cdv A outer s H E).nox (defBody st) t ∧ t { nx := fun _ H' => Q .non H', rt := Q } (start N vs) H) : FnOkG P w K mg base (k + 1) f fd ps sp := by
  obtain ⟨oc, od, kV, doc, pm, an, cdv, ct, osl, rfl, lk, hcd⟩ := F.ex
  refine ⟨len, fun A outer s H args us vs Q E hg hr e0 hb r hsp => ?_⟩
  have KX : K.In s.heap := e0.mod.kin.keeps fun b o e => (e0.bs b o e).1
  have lim : s.heap.NoLimit := e0.mod.nolimit.keeps fun b o e => (e0.bs b o e).1
  have kinds : ∀ y ∈ ps.zip us, (defScope st).names.lookup y.1 = some .local ∨ ((defScope st).names.lookup y.1 = some .cell ∧ ((cellsFrom (s.heap.objs.size + 1) (defScope st).names []).lookup y.1).isSome = true) := fun ⟨n, v⟩ hy =>
    (S.par n (List.of_mem_zip hy).1).imp id fun q => ⟨q, PySem.W.cellsFrom_some _ _ _ (.inl q)⟩
  refine codeAny_call_function hr.depth (KX _ _ lk) rfl S.co S.gen rfl (PySem.W.codeRec_of KX hcd) (hb _ _ _ _ (wpAny_newFunctionEnv_cells S.kind kinds fun env he s1 x => ?_))
  subst he
  refine ⟨lim.keeps x.toInCall.keep, codeAny_func ?_⟩
  obtain ⟨t, ht, hq⟩ := hbody cdv A outer s H vs Q E hg (hr.deeper _) hsp
  have I := inv_start (CX := CX0) (E := E) S hr.hd e0 (len _ _ _ _ hsp) r x
  refine wpAny_mono (ht.nox.run [] s1 _ H _ I hq) (fun fl s' hs => ?_) fun e s' hs => hs
  cases fl with
  | ret u => obtain ⟨v, σ', H', J, rv, q⟩ := hs; exact ⟨v, H', J.os, J.bare, J.base, J.hok, rv, q⟩
  | next => obtain ⟨σ', H', J, q⟩ := hs; exact ⟨V.non, H', J.os, J.bare, J.base, J.hok, rfl, q⟩
  | brk => obtain ⟨_, _, _, q⟩ := hs; exact False.elim q
  | cont => obtain ⟨_, _, _, q⟩ := hs; exact False.elim q
end
structure HasG (P : Program) (w : World) (K : PySem.W.Frag) (mg : Str → Option Value) (base : Heap) (nm : Str) (k : Nat) (ps : List Str) (sp : Sp) : Prop where
  ex : ∃ f fd, FnOkG P w K mg base k f fd ps sp ∧ mg nm = some (.ref f) ∧ PySem.W.keepIn K (.ref f) = true ∧ Binds K fd ps []
theorem pe_callGG {X : Cx} {k : Nat} {ps : List Str} {sp : Sp} {x : Str} {p pos : Pos} {e : Expr} {es : List Expr} {t : TA} (F : HasG X.prog X.w X.K X.mg X.base x k ps sp) (hgd : X.A.guards = some []) (hr : Room k X.A) (ha : PA X (e :: es) t) (hg : Gl X x := by rfl)
    (hdb : (x == ("__debug__" : Str)) = false := by decide) (he : starEach (e :: es) X.env = (false, eval e X.env) :: starEach es X.env := by rfl) (hpl : (backTo pos (starEach es X.env)).any (·.1) = false := by rfl) :
    PE X (.Call (.Name x p) (e :: es) [] pos) (tCallS sp (fun _ => E0) t) := by
  obtain ⟨f, fd, F, hm, hk, hb⟩ := F.ex
  refine ⟨fun pins s σ H Q I h => ?_⟩
  refine wpAny_Call_Name_kw (ld_glob I hg hm ?_ hdb)
  refine PySem.W.callWith_K (h₀ := X.base) I.ok.mod.kin hk (thn (ha.run pos pins s σ H _ I h) fun us s1 ⟨vs, H1, I1, r, q⟩ => ⟨I1.kIn, ?_⟩) he hpl
  have hl : us.length = ps.length := by rw [← r.length]; exact F.len _ _ _ _ q
  have b := hb s1 us I1.kIn (by rw [List.append_nil]; exact hl)
  rw [List.append_nil] at b
  refine wpAny_call (codeAny_mono (F.run X.A X.stack s1 H1 ⟨us, []⟩ us vs Q E0 hgd hr I1.env0 b r q) fun r s' hq => ?_)
  cases r with
  | error e => exact p0 σ pins H1 s1 e s' I1 hq
  | ok fl =>
    cases fl with
    | ret u => exact I1.after hq
    | next => exact False.elim hq
    | brk => exact False.elim hq
    | cont => exact False.elim hq
/-- the head's call, of a def that is promised where no repr is under way -/
theorem law_callG {P : Program} {w : World} {K : PySem.W.Frag} {mg mb : Str → Option Value} {k : Nat} {fa a : Addr} {fd : FuncData} {x : Str} {sp : Sp} {s : Shared} {vs : List Value} {ns : List Int}
    (KX : K.In s.heap) (hns : s.heap.Ns mainGlobals mg) (hb : s.heap.Ns builtinsNs mb) (hbb : ∀ x : Str, x ≠ "__name__" → mb x = bootBuiltins x) (hlim : s.heap.NoLimit) (hg : s.gens = #[])
    (ha : s.heap.get? a = some { cls := .type "list", data := .seq vs.toArray }) (hi : IntsAre vs ns) (hl : ns.length ≤ sizeLine) (hr : Room k callerA)
    (F : ∀ base : Heap, K.In base → base.Ns mainGlobals mg → FnOkG P w K mg base k fa fd [x] sp) (hbind : ∀ (s : Shared) (u : Value), BindsTo s fd ⟨[u], []⟩ [(x, u)])
    (hsp : ∀ H : Hp, Only H → SqL K H a (ns.map V.int) → sp [.ref a] H (fun v _ => v = .bl true) fun _ _ _ => False) :
    codeAny (model P w) callerA (.call (.ref fa) ⟨[.ref a], []⟩) (fun r s' => r = .ok (.ret (.bool true)) ∧ OldK s.heap s'.heap ∧ s'.os = s.os ∧ AllBare s'.gens) s := by
  have rv := vals_ints hi
  have go : ∀ H : Hp, Only H → SqL K H a (ns.map V.int) → HOk P w H s.heap → (∀ b, H b ≠ none → b = a) → (H a ≠ none → K.lookup a = none) →
      codeAny (model P w) callerA (.call (.ref fa) ⟨[.ref a], []⟩) (fun r s' => r = .ok (.ret (.bool true)) ∧ OldK s.heap s'.heap ∧ s'.os = s.os ∧ AllBare s'.gens) s := by
    intro H hO hS hok only hK
    have none_of : ∀ {b : Addr}, b ≠ a → H b = none := fun {b} n => by
      cases q : H b with
      | none => rfl
      | some u => exact absurd (only b (by rw [q]; exact fun z => nomatch z)) n
    have nsK : ∀ {b : Addr} {m : Str → Option Value}, s.heap.Ns b m → (hidT s.heap H).Ns b m := fun {b m} ⟨o, es, ep, e, d, r⟩ => by
      refine ⟨o, es, ep, hidT_get e ?_, d, r⟩
      by_cases q : b = a
      · subst q
        rw [ha] at e
        cases e
        cases (show Data.seq vs.toArray _ = Data.dict es ep from d)
      · exact none_of q
    have hKb : K.In (hidT s.heap H) := fun b o e => by
      refine hidT_get (KX b o e) ?_
      by_cases q : b = a
      · subst q
        cases z : H b with
        | none => rfl
        | some u => rw [hK (by rw [z]; exact fun z => nomatch z)] at e; cases e
      · exact none_of q
    have hM : Mod K mg (hidT s.heap H) := ⟨hKb, nsK hns, ⟨mb, nsK hb, hbb⟩, let ⟨mc, h1, h2⟩ := hlim; ⟨mc, nsK h1, h2⟩⟩
    have e0 : Env0 P w K mg (hidT s.heap H) callerA [] s H := ⟨rfl, hM, fun b o e => of_hidT e, Nat.le_of_eq (hidT_size _ _), trivial, fun b hb => absurd (show b ∈ ([] : List Addr) from hb) (by simp), hok, .of_eq hg⟩
    refine codeAny_mono ((F _ hKb (nsK hns)).run callerA [] s H ⟨[.ref a], []⟩ [.ref a] [.ref a] _ _ rfl hr e0 (hbind s (.ref a)) (.cons rfl .nil) (hsp H hO hS)) fun r s' h => ?_
    cases r with
    | error e => exact False.elim h
    | ok fl =>
      cases fl with
      | next => exact False.elim h
      | brk => exact False.elim h
      | cont => exact False.elim h
      | ret u =>
        obtain ⟨v, H', os, bare, un, hok', r', q⟩ := h
        obtain rfl : v = .bl true := q
        obtain rfl : u = Value.bool true := r'
        refine ⟨rfl, OldK.of_keep fun b o e => ?_, os, bare⟩
        rcases hO b with z | ⟨ob, xs, z⟩
        · exact un.keep b o e z (fun z => absurd (show b ∈ ([] : List Addr) from z) (by simp)) (by simp)
        · obtain ⟨e1, _⟩ := hok b _ z
          obtain ⟨e2, _⟩ := hok' b _ (un.frzs b ob _ z)
          rw [e] at e1; cases e1
          exact e2
  cases hk : K.lookup a with
  | some o =>
    have e := KX a o hk
    rw [ha] at e
    cases e
    refine go (fun _ => none) (fun _ => .inl rfl) (.inr ⟨_, vs.toArray, _, hk, rfl, rfl, rfl, by rw [List.size_toArray, hi.length]; exact hl, by simpa using rv⟩) (fun b u z => nomatch (show (none : Option HO) = some u from z)) (fun b z => absurd rfl z) fun z => absurd rfl z
  | none =>
    refine go (fun b => if b = a then some (.frz { cls := .type "list", data := .seq vs.toArray } (.lst (ns.map V.int))) else none) (fun b => ?_) (.inl (.inr ⟨_, if_pos rfl⟩)) (fun b u z => ?_) (fun b z => ?_) fun _ => hk
    · by_cases q : b = a
      · exact .inr ⟨_, _, if_pos q⟩
      · exact .inl (if_neg q)
    · by_cases q : b = a
      · cases (if_pos q).symm.trans z
        subst q
        exact ⟨ha, by rw [List.length_map]; exact hl, vs, _, rv, ha⟩
      · cases (if_neg q).symm.trans z
    · by_cases q : b = a
      · exact q
      · exact absurd (if_neg q) z
theorem walk_ofG {l : PySem.W.OpenLaw} {n k : Nat} {q : Program} {loose : List Str} {XP : (Str → Option Value) → Heap → Prop} {YP : World → Heap → Prop} {d : DefRec} {K : Params → PySem.W.Frag} {sp : World → Sp} {x : Str}
    (hn : l.most = some n) (hn2 : n ≤ sizeLine) (hdf : d.params.defaults = []) (hr : Room k callerA)
    (hY : ∀ (w : World) (h : Heap), YP w h → (K w.params).In h)
    (F : ∀ (w : World) (mg : Str → Option Value) (fa : Addr) (h : Heap), (K w.params).In h → h.Ns mainGlobals mg → mg d.name = some (.ref fa) →
      ∃ fd : FuncData, (∀ (s : Shared) (u : Value), BindsTo s fd ⟨[u], []⟩ [(x, u)]) ∧
        ∀ base : Heap, (K w.params).In base → base.Ns mainGlobals mg → FnOkG l.prog w (K w.params) mg base k fa fd [x] (sp w))
    (hsp : ∀ (w : World) (H : Hp) (a : Addr) (ns : List Int), ns.length ≤ n → Only H → SqL (K w.params) H a (ns.map V.int) → sp w [.ref a] H (fun v _ => v = .bl true) fun _ _ _ => False) :
    PySem.W.WalkO q loose XP YP l.row.toRowW d [] (fun f vs => PySem.call f vs) := by
  refine Att.attach_call hn hdf fun w s₀ s₁ mg mb fa o pm cd doc a vs ns G Y ho hd hcd hmg hobj hints hlen hg => ?_
  have KX := hY w _ Y
  obtain ⟨fd, hb, hF⟩ := F w mg fa _ KX G.T.g hmg
  exact law_callG KX G.T.g G.T.b G.T.builtins G.T.nolimit hg hobj hints (Nat.le_trans hlen hn2) hr hF hb (fun H hO hS => hsp w H a ns hlen hO hS)
end Sfx
end
section
set_option Elab.async false
set_option linter.all false
set_option maxRecDepth 100000
set_option maxHeartbeats 4000000
/-! A list comprehension over range, where an exception is handled. -/
namespace Sfx
open PySem PySem.Spec PyProof.Rows L2
/-- range(n) has been made and is walked -/
def RgAt (X : Cx) (pins : List (Addr × Obj)) (σ : L2.St) (R : It → Hp → Prop) (itv : Value) (s : Shared) : Prop :=
  ∃ (it : Addr) (lo : Int) (n : Nat) (H : Hp), itv = .ref it ∧ Inv X pins σ H s ∧ IsRangeIter s.heap it lo (n : Int) 1 ∧ FpOk X pins H it ∧ R (Itr lo n) H
theorem rg_iter {X : Cx} {pins : List (Addr × Obj)} {σ : L2.St} {H : Hp} {s : Shared} {R : It → Hp → Prop} {E : Value → Shared → Prop} {hi : Int} {t u v : Tok} {tk : Nat} (I : Inv X pins σ H s)
    (h3 : -(2 ^ 62) ≤ hi) (h4 : hi < 2 ^ 62) (q : R (Itr 0 hi.toNat) H) :
    wpAny (model X.prog X.w) X.A (pyIter (.ref s.heap.objs.size)) (RgAt X pins σ R) E { s with heap := s.heap.push { cls := .type "range", data := .fields #[.int 0 t, .int hi u, .int 1 v] }, toks := tk } := by
  refine wpAny_pyIter_range (IsRange.new ..) (small_one (by omega) (by omega) h3 h4) ?_
  have I1 : Inv X pins σ H { s with heap := s.heap.push { cls := .type "range", data := .fields #[.int 0 t, .int hi u, .int 1 v] }, toks := tk } :=
    I.kept fun b o e => Heap.get?_push_of_some _ e
  refine ⟨_, 0, hi.toNat, H, rfl, I1.kept (t' := tk) fun b o e => Heap.get?_push_of_some _ e, ?_, I1.fpOk (Nat.le_refl _) (I1.hok.fresh (Nat.le_refl _)), q⟩
  have e2 : ((hi.toNat : Nat) : Int) = Builtin.Range.rangeSize 0 hi 1 := by
    rw [rangeSize_one]
    split <;> omega
  rw [e2]
  exact Heap.get?_push_size _ rfl
structure PIR (X : Cx) (iter : Expr) (wi : TI) : Prop where
  run : ∀ (pins : List (Addr × Obj)) (s : Shared) (σ : L2.St) (H : Hp) (R : It → Hp → Prop), Inv X pins σ H s → wi σ H R →
    wpAny (model X.prog X.w) X.A (eval iter X.env) (fun v s1 => wpAny (model X.prog X.w) X.A (pyIter v) (RgAt X pins σ R) X.xe s1) X.xe s
theorem pir_range1 {X : Cx} {a : Expr} {ta : TA} {p pos : Pos} (hg : Gl X "range") (hm : X.mg "range" = none) (ha : PA X [a] ta) (hs : starEach [a] X.env = [(false, eval a X.env)] := by rfl) :
    PIR X (.Call (.Name "range" p) [a] [] pos) (iRng1 ta) := by
  refine ⟨fun pins s σ H R I h => ?_⟩
  refine Call_ (ld_blt I hg hm boot_range (callWith_type1 (thn (ha.run pos pins s σ H _ I h) fun us s1 ⟨vs, H1, I1, r1, q1⟩ => ?_) hs rfl))
  obtain ⟨j, e, q1, q2, q⟩ := q1
  subst e
  cases r1 with
  | cons r rr =>
    cases rr
    obtain ⟨t, rfl⟩ := r
    exact call_range_1 (rg_iter I1 q1 q2 q)
section
variable {X : Cx} {elt tg iter : Expr} {ifs : List Expr} {scope : Scope} {own : List (Str × Nat)} {pos : Pos} {wi : TI} {g : TG} {tt : TT} {te : TE}
theorem pe_lcR (hc : L2H.HotC X) (hN : X.N.Nodup) (hi : PIR X iter wi) (ok : BlkOk X.N X.env.scope scope own)
    (hg : ∀ (s : Shared) (H : Hp) (C : Addr) (cl : List (Str × Addr)) (fp : List Addr), PG (X.blk s H scope (compEnvC scope cl C X.env) fp) tg g)
    (ht : ∀ (s : Shared) (H : Hp) (C : Addr) (cl : List (Str × Addr)) (fp : List Addr), PTs (X.blk s H scope (compEnvC scope cl C X.env) fp) ifs tt)
    (he : ∀ (s : Shared) (H : Hp) (C : Addr) (cl : List (Str × Addr)) (fp : List Addr), PE (X.blk s H scope (compEnvC scope cl C X.env) fp) elt te)
    (hs : ∀ x, foldedSetIterable iter X.env x = pure x := by intro _; rfl) : PE X (.ListComp elt [⟨tg, iter, ifs, 0⟩] scope pos) (tLc wi g tt te (own.map (·.2))) := by
  refine ⟨fun pins s σ H Q I h => ?_⟩
  rw [eval_ListComp]
  have hfree : ∀ y ∈ scope.names, y.2 = .free → ∃ c, X.env.cells.lookup y.1 = some c := fun y hy e => (ok.free y hy e).elim (fun k => I.ok.has _ (.inl k)) fun k => I.ok.has _ (.inr k)
  refine wpAny_comprehension_free rfl hs (closure_ok hfree) ok.kind (fun y hy e => by rw [ok.uniq y hy, e]) (thn (hi.run pins s σ H _ I h) fun xv s1 hx => thn hx fun itv s2 h2 => ?_)
  obtain ⟨it, lo, nn, H2, e, I2, st2, f2, q⟩ := h2
  subst e
  refine wpAny_newObj_type (newEnv_comp ?_) (by show 0 ≤ sizeLine; decide)
  generalize hD : s2.heap.objs.size = D
  obtain ⟨W, ⟨m0, w0⟩, turn⟩ := q D (I2.hok.fresh (Nat.le_of_eq hD))
  generalize hs3 : ({ s2 with heap := s2.heap.push { cls := .type "list", data := .seq ([] : List Value).toArray } } : Shared) = s3
  have h3 : s3.heap = s2.heap.push { cls := .type "list", data := .seq ([] : List Value).toArray } := by rw [← hs3]
  have I3 : Inv X pins σ (upd H2 D (.lst [])) s3 := by
    rw [← hs3]
    refine I2.laid (t' := s2.toks) (fun b o e => Heap.get?_push_of_some _ e) (Nat.le_of_eq hD) ⟨Nat.zero_le _, [], 0, .nil, ?_⟩
    rw [← hD]
    exact Heap.get?_push_size _ rfl
  have ltI : it < s2.heap.objs.size := Heap.lt_size st2
  have f3 : FpOk X pins (upd H2 D (.lst [])) it := ⟨by rw [upd_ne (by rw [← hD]; exact Nat.ne_of_lt ltI)]; exact f2.1, f2.2⟩
  have st3 : IsRangeIter s3.heap it lo (nn : Int) 1 := by
    rw [h3]
    exact Heap.get?_push_of_some _ st2
  have I4 := block_start (fp := [it]) I3 ok hN fun b hb => by
    have : b = it := by simpa using hb
    subst this
    exact ⟨f3, by rw [h3, Heap.size_push]; exact Nat.lt_succ_of_lt ltI⟩
  have pg := hg s3 (upd H2 D (.lst [])) s3.heap.objs.size (cellsFrom (s3.heap.objs.size + 1) scope.names (cloFrom X.env.cells scope.names [])) [it]
  have pt := ht s3 (upd H2 D (.lst [])) s3.heap.objs.size (cellsFrom (s3.heap.objs.size + 1) scope.names (cloFrom X.env.cells scope.names [])) [it]
  have pe := he s3 (upd H2 D (.lst [])) s3.heap.objs.size (cellsFrom (s3.heap.objs.size + 1) scope.names (cloFrom X.env.cells scope.names [])) [it]
  show codeAny _ _ (.compStart (.ListComp elt [⟨tg, iter, ifs, 0⟩] scope pos) 0 (.ref it) (.ref D) (compEnvC scope (cellsFrom (s3.heap.objs.size + 1) scope.names (cloFrom X.env.cells scope.names [])) s3.heap.objs.size X.env)) (compPost (model X.prog X.w) X.A X.xe _ _ (.ref D) s3.heap.objs.size)
    { s3 with heap := pushCells (s3.heap.push { cls := .type "dict", data := .dict #[] }) scope.names }
  generalize hce : compEnvC scope (cellsFrom (s3.heap.objs.size + 1) scope.names (cloFrom X.env.cells scope.names [])) s3.heap.objs.size X.env = ce at I4 pg pt pe ⊢
  have cL : ce.locals = s3.heap.objs.size := by subst hce; rfl
  have n3 := f3.1
  generalize hH3 : upd H2 D (.lst []) = H3 at I3 I4 pg pt pe w0 n3 f3
  generalize hs4 : ({ s3 with heap := pushCells (s3.heap.push { cls := .type "dict", data := .dict #[] }) scope.names } : Shared) = s4 at I4 ⊢
  have st4 : IsRangeIter s4.heap it lo (nn : Int) 1 := by
    rw [← hs4]
    exact pushCells_keeps _ _ _ _ (Heap.get?_push_of_some _ st3)
  have stat : ∀ {σ' : L2.St} {H' : Hp} {s' : Shared}, Inv (X.blk s3 H3 scope ce [it]) [] σ' H' s' → H' it = none → FpOk (X.blk s3 H3 scope ce [it]) [] H' it := fun {σ' H' s'} I' hn =>
    have hb : it ∈ [it] := List.mem_singleton.mpr rfl
    ⟨hn, (I'.ok.exf it hb).1, I'.ok.exfs it hb, .inl hb, fun x c e => (I'.ok.exf it hb).2 x c e, fun p hp => absurd (show p ∈ ([] : List (Addr × Obj)) ++ [] from hp) (by simp)⟩
  refine codeAny_compStart_list (it := .ref it) ?_ (wpAny_pyIter_rangeiter st4 ?_)
  all_goals
    refine compLoop_any (fun n s' => ∃ i H', Inv (X.blk s3 H3 scope ce [it]) [] (wipe σ (own.map (·.2))) H' s' ∧ IsRangeIter s'.heap it (lo + (i : Nat)) ((nn : Int) - (i : Nat)) 1 ∧ H' it = none ∧ W i n H') ?_ m0 ⟨0, H3, I4, by simpa using st4, n3, w0⟩
    rintro n s5 ⟨i, H5, I5, st5, n5, w5⟩
    obtain ⟨f0, f1, f2', f3', f4, f5⟩ := stat I5 n5
    rcases turn i n H5 w5 with ⟨stop, qq⟩ | ⟨go, Nx, hNx, step⟩
    · have stop : nn ≤ i := stop
      have back : ∀ {s' : Shared}, Inv (X.blk s3 H3 scope ce [it]) [] (wipe σ (own.map (·.2))) H5 s' → Inv X pins σ H5 s' := fun {s'} I' => I3.call' (ch := [it]) I'.os I'.base I'.hok I'.bare fun b hb => by
        have : b = it := by simpa using hb
        subst this
        exact ⟨f3.2.2.2.1, f3.2.1, f3.2.2.2.2.1, f3.2.2.2.2.2⟩
      obtain ⟨x1, hot⟩ := hc.at (back I5)
      refine HotX.pyNext_range_end_hot hot st5 (by omega) fun h' eb => ?_
      have I6 : Inv (X.blk s3 H3 scope ce [it]) [] (wipe σ (own.map (·.2))) H5 { s5 with heap := h' } := I5.turned (t' := s5.toks) (fun b o _ e => eb b o e) f0 f1 f3' f4 f5
      have I7 := back I6
      have nC : H5 s3.heap.objs.size = none := by
        have z : H5 ce.locals = none := I6.free
        rw [cL] at z
        exact z
      obtain ⟨m, hn, _⟩ := I6.loc
      have hn : h'.Ns ce.locals m := hn
      rw [cL] at hn
      obtain ⟨k0, k1, k2, k3, k4, k5⟩ := I3.fpOk (H' := H5) (Nat.le_refl _) nC
      exact ⟨m, hn, fun h'' sb => ⟨.ref D, H5, I7.turned (t' := s5.toks) (fun b o hb e => (sb.2 b hb).trans e) k0 k1 k3 k4 k5, rfl, qq⟩⟩
    · have go : i < nn := go
      refine wpAny_pyNext_range_item st5 (by omega) fun h' st' sb => ?_
      have st6 : IsRangeIter h' it (lo + ((i + 1 : Nat) : Int)) ((nn : Int) - ((i + 1 : Nat) : Int)) 1 := by
        have e1 : lo + ((i : Nat) : Int) + 1 = lo + ((i + 1 : Nat) : Int) := by omega
        have e2 : (nn : Int) - ((i : Nat) : Int) - 1 = (nn : Int) - ((i + 1 : Nat) : Int) := by omega
        rw [← e1, ← e2]
        exact st'
      have I6 : Inv (X.blk s3 H3 scope ce [it]) [] (wipe σ (own.map (·.2))) H5 { s5 with heap := h', toks := s5.toks + 1 } := I5.turned (fun b o hb e => (sb.2 b hb).trans e) f0 f1 f3' f4 f5
      refine go_of (s := { s5 with heap := h', toks := s5.toks + 1 }) (n := "range_iterator") st6 rfl rfl (by decide) ?_
      have I6' := I6.pinned (fp := [it]) (fun b hb => by
        have : b = it := by simpa using hb
        subst this
        exact stat I6 n5) (fun b hb => by
        have : b = it := by simpa using hb
        subst this
        exact ⟨_, st6, fun v z => by
          have z' : Data.fields _ = Data.cell v := z
          cases z'⟩)
      refine thnF (pg.run _ { s5 with heap := h', toks := s5.toks + 1 } _ H5 (.int (lo + (i : Nat))) (.int (lo + (i : Nat)) s5.toks) _ I6' ⟨s5.toks, rfl⟩ (step _ H5 ⟨rfl, rfl⟩)) fun _ s8 ⟨σ8, H8, I8, hw8, q8⟩ => ?_
      refine thnF (pt.run _ s8 σ8 H8 _ I8 q8) fun b s9 ⟨H9, I9, q9⟩ => ?_
      have fin : ∀ {s' : Shared} {H' : Hp}, Inv (X.blk s3 H3 scope ce [it]) ([] ++ pinsAt [it] h') σ8 H' s' → Nx H' →
          ∃ m, m < n ∧ ∃ i H', Inv (X.blk s3 H3 scope ce [it]) [] (wipe σ (own.map (·.2))) H' s' ∧ IsRangeIter s'.heap it (lo + (i : Nat)) ((nn : Int) - (i : Nat)) 1 ∧ H' it = none ∧ W i m H' := fun {s' H'} I' nx => by
        obtain ⟨m', hm, w'⟩ := hNx H' nx
        have pin' := I'.pin (it, _) (List.mem_append_right _ (List.mem_append_right _ (mem_pinsAt (List.mem_singleton.mpr rfl) st6)))
        have hl : (wipe σ (own.map (·.2))).length = σ8.length := by rw [← hw8, wipe_length]
        refine ⟨m', hm, i + 1, H', (I'.unpinned (pins := [])).weak hl (fun j v e => ?_), pin'.1, pin'.2.1, w'⟩
        rw [← hw8] at e
        exact (wipe_some e).1
      cases b with
      | false => exact fin I9 q9
      | true =>
        refine thnF (pe.run _ s9 σ8 H9 _ I9 q9) fun z s10 ⟨yv, H10, I10, r10, acc, hD10, hz10, nx⟩ => ?_
        exact app_ok (X := X.blk s3 H3 scope ce [it]) I10 hD10 hz10 r10 fun s11 I11 => fin I11 nx
end
/-- a list's method, the part of the module named -/
theorem pe_bmK (K : PySem.W.Frag) {X : Cx} {T : String} {name : Str} {id : String} {r : V → List V → Hp → VK → Prop} {o e : Expr} {es : List Expr} {to : TE} {t : TA} {apos cpos : Pos} (pa : PlainAttrs T) (slot : Slot T name id) (hty : typeOf (.builtin id) = pure (.type "method_descriptor")) (hm : MtR X id r) (ho : PE X o to) (ha : PA X (e :: es) t)
    (hk : X.K = K := by rfl) (hbase : attributeBase o name X.env (eval o X.env) = eval o X.env := by rfl)
    (hfew : ((backTo cpos (starEach (e :: es) X.env)).all (fun x => !x.1) && (backToKw cpos (keywordEach [] X.env)).all (fun x => x.1.isSome) && decide ((e :: es).length + ([] : List Keyword).length + (if ([] : List Keyword).isEmpty then 0 else 1) < 30)) = true := by rfl)
    (hline : (apos.endLine == cpos.line) = true := by rfl) (hs : starEach (e :: es) X.env = (false, eval e X.env) :: starEach es X.env := by rfl)
    (hplain : (backTo cpos (starEach es X.env)).any (·.1) = false := by rfl) : PE X (.Call (.Attribute o name apos) (e :: es) [] cpos) (tBM K T r to t) := by
  subst hk
  exact pe_bm pa slot hty hm ho ha hbase hfew hline hs hplain
/-- the exception that is handled, without context -/
theorem hot_suite {X : Cx} {a : Addr} {oe : Obj} {cls : Value} {d : Option Addr} {pn : List (Addr × Obj)} (hz : L2N.Zn cls d oe) (hf : ∃ vs, oe.data = .fields vs) : L2H.HotC (X.suite a ((a, oe) :: pn)) :=
  let ⟨vs, hd⟩ := hf
  ⟨(a, oe), ⟨rfl, vs, hd, hz.2.2 vs hd⟩, List.mem_cons_self⟩
end Sfx
end
section
set_option Elab.async false
set_option linter.all false
set_option maxRecDepth 100000
set_option maxHeartbeats 4000000
namespace Sfx
open PySem PySem.Spec L2
/-! ### rows of whole numbers and texts, ordered item by item -/
def ik : V → Int ⊕ List Nat
  | .int i => .inl i
  | .str z => .inr z.cps.toList
  | _ => .inl 0
def rowKey (r : List V) : List (Int ⊕ List Nat) := r.map ik
def rowLt (a b : List V) : Bool := PyProof.Rows.lexLt PyProof.Rows.itemOrd (rowKey a) (rowKey b)
def shp : List Bool → List V → Bool
  | [], [] => true
  | false :: s, .int _ :: r => shp s r
  | true :: s, .str _ :: r => shp s r
  | _, _ => false
def rowAt (H : Hp) (a : Addr) : List V := match H a with
  | some (.tup r) => r
  | _ => []
theorem rowAt_of {H : Hp} {a : Addr} {r : List V} (h : H a = some (.tup r)) : rowAt H a = r := by unfold rowAt; rw [h]
theorem items_of {shape : Nat → Bool} : ∀ {sh : List Bool} {r : List V} {us : List Value} {i : Nat}, (∀ j b, sh[j]? = some b → shape (i + j) = b) → shp sh r = true → Vals r us → PyProof.Rows.tupItems shape i us = some (rowKey r)
  | [], [], _, _, _, _, .nil => rfl
  | [], _ :: _, _, _, _, h, _ => by simp [shp] at h
  | b :: s, [], _, _, _, h, _ => by cases b <;> simp [shp] at h
  | false :: s, .int n :: r, _, i, hs, h, .cons q t => by
    obtain ⟨tk, rfl⟩ := q
    have e0 : shape i = false := hs 0 false rfl
    have ih := items_of (shape := shape) (sh := s) (r := r) (i := i + 1) (fun j b e => by have := hs (j + 1) b (by simpa using e); rw [← this]; congr 1; omega) h t
    show (if shape i = true then none else (PyProof.Rows.tupItems shape (i + 1) _).map (Sum.inl n :: ·)) = _
    rw [e0, if_neg Bool.false_ne_true, ih]
    rfl
  | true :: s, .str z :: r, _, i, hs, h, .cons q t => by
    obtain ⟨tk, rfl⟩ := q
    have e0 : shape i = true := hs 0 true rfl
    have ih := items_of (shape := shape) (sh := s) (r := r) (i := i + 1) (fun j b e => by have := hs (j + 1) b (by simpa using e); rw [← this]; congr 1; omega) h t
    show (if shape i = true then (PyProof.Rows.tupItems shape (i + 1) _).map (Sum.inr z.cps.toList :: ·) else none) = _
    rw [e0, if_pos rfl, ih]
    rfl
  | false :: _, .non :: _, _, _, _, h, _ => by simp [shp] at h
  | false :: _, .bl _ :: _, _, _, _, h, _ => by simp [shp] at h
  | false :: _, .str _ :: _, _, _, _, h, _ => by simp [shp] at h
  | false :: _, .byt _ :: _, _, _, _, h, _ => by simp [shp] at h
  | false :: _, .flt _ :: _, _, _, _, h, _ => by simp [shp] at h
  | false :: _, .ref _ :: _, _, _, _, h, _ => by simp [shp] at h
  | false :: _, .ty _ :: _, _, _, _, h, _ => by simp [shp] at h
  | true :: _, .non :: _, _, _, _, h, _ => by simp [shp] at h
  | true :: _, .bl _ :: _, _, _, _, h, _ => by simp [shp] at h
  | true :: _, .int _ :: _, _, _, _, h, _ => by simp [shp] at h
  | true :: _, .byt _ :: _, _, _, _, h, _ => by simp [shp] at h
  | true :: _, .flt _ :: _, _, _, _, h, _ => by simp [shp] at h
  | true :: _, .ref _ :: _, _, _, _, h, _ => by simp [shp] at h
  | true :: _, .ty _ :: _, _, _, _, h, _ => by simp [shp] at h
/-- sorted(xs), xs a list of tuples of whole numbers and texts, all of one shape: a new list of the same tuples, in order -/
def rSortedM : List V → Hp → VK → Prop := fun vs H Q => ∃ (a : Addr) (rows : List (List V)) (sh : List Bool), vs = [V.ref a] ∧ LT H a rows ∧ sh ≠ [] ∧ (∀ r ∈ rows, shp sh r = true) ∧
  ∀ (qs : List Addr) (rows' : List (List V)) (p : Addr), rows'.Perm rows → Paired (fun p r => H p = some (.tup r)) qs rows' → rows'.Pairwise (fun x y => rowLt y x = false) → H p = none → Q (.ref p) (upd H p (.lst (qs.map V.ref)))
def keyV (H : Hp) : Value → List V
  | .ref t => rowAt H t
  | _ => []
theorem rows_eq {H : Hp} : ∀ {ps : List Addr} {rows : List (List V)}, Paired (fun p r => H p = some (.tup r)) ps rows → rows = ps.map (rowAt H)
  | _, _, .nil => rfl
  | _, _, .cons a t => by rw [List.map_cons, ← rows_eq t, rowAt_of a]
theorem paired_rows {H : Hp} : ∀ {qs : List Addr}, (∀ q ∈ qs, ∃ r, H q = some (.tup r)) → Paired (fun p r => H p = some (.tup r)) qs (qs.map (rowAt H))
  | [], _ => .nil
  | q :: l, h => by
    obtain ⟨r, e⟩ := h q List.mem_cons_self
    refine .cons ?_ (paired_rows fun x hx => h x (List.mem_cons_of_mem _ hx))
    show H q = some (.tup (rowAt H q))
    rw [rowAt_of e]; exact e
theorem row_swo (H : Hp) : SrtO.Swo fun v u => rowLt (keyV H v) (keyV H u) := by
  have O := PyProof.Rows.listOrd PyProof.Rows.itemOrd
  refine ⟨fun x y h => ?_, fun x y z h1 h2 => ?_⟩
  · cases q : rowLt (keyV H y) (keyV H x) with
    | false => rfl
    | true =>
      have t := (PyProof.Rows.listOrd PyProof.Rows.itemOrd).trans _ _ _ h q
      have i := (PyProof.Rows.listOrd PyProof.Rows.itemOrd).irrefl (rowKey (keyV H x))
      rw [i] at t
      cases t
  · cases q : rowLt (keyV H z) (keyV H x) with
    | false => rfl
    | true =>
      rcases (PyProof.Rows.listOrd PyProof.Rows.itemOrd).negTrans _ (rowKey (keyV H y)) _ q with z1 | z1
      · have e : rowLt (keyV H z) (keyV H y) = true := z1
        rw [h2] at e; cases e
      · have e : rowLt (keyV H y) (keyV H x) = true := z1
        rw [h1] at e; cases e
section
variable {X : Cx}
theorem cr_sortedM : CallR X (.builtin "sorted") rSortedM := by
  intro pins s σ H vs us Q I r h
  obtain ⟨a, rows, sh, rfl, ⟨ps, hl0, hp⟩, hne, hsh, q⟩ := h
  obtain ⟨its, rv, hl, hz⟩ := I.list (SqL.of hl0)
  obtain ⟨u, rfl, ru⟩ := vals1 r
  obtain rfl : u = Value.ref a := ru
  have eq := rows_eq hp
  -- the items
  have hits : its = ps.map Value.ref := by
    clear q hl hz hl0 hsh eq hp r
    induction ps generalizing its with
    | nil => cases rv; rfl
    | cons p l ih =>
      cases rv with
      | cons e t => rw [List.map_cons, ← ih _ t]; rw [show _ = Value.ref p from e]
  have tupAt : ∀ p ∈ ps, ∃ r us', H p = some (.tup r) ∧ Vals r us' ∧ PyProof.Rows.IsTup s.heap p us'.toArray ∧ shp sh r = true := fun p hm => by
    obtain ⟨i, hi⟩ := List.getElem?_of_mem hm
    obtain ⟨r, r1, r2⟩ := paired_get1 hp hi
    obtain ⟨_, us', v1, v2⟩ := I.hok _ _ r2
    exact ⟨r, us', r2, v1, v2, hsh r (List.mem_of_getElem? r1)⟩
  refine SrtO.sorted_ord (row_swo H) hl.isList (by rw [← rv.length]; exact hz) (fun h2 h1 d hd kk => ?_) fun out hs hb => ?_
  · -- what is asked of the items
    intro h' keep
    have at' : ∀ p ∈ ps, ∃ r us' o n, H p = some (.tup r) ∧ Vals r us' ∧ shp sh r = true ∧ h'.get? p = some o ∧ o.cls = .type "tuple" ∧ o.data = .seq us'.toArray n := fun p hm => by
      obtain ⟨r, us', e1, e2, ⟨o, ho, hc, n, hdt⟩, e4⟩ := tupAt p hm
      obtain ⟨k1, k2⟩ := kk p o ho
      exact ⟨r, us', o, n, e1, e2, e4, keep p o k1 k2, hc, hdt⟩
    have shv : ∀ {r : List V} {us' : List Value}, shp sh r = true → Vals r us' → PyProof.Rows.tupItems (fun i => sh.getD i false) 0 us' = some (rowKey r) := fun {r us'} e1 e2 => items_of (i := 0) (fun j b e => by simp [List.getD, e]) e1 e2
    refine ⟨PyProof.Rows.tuples' true, fun Q' E' hq => ?_, ?_⟩
    · -- the kind
      have hT : ∀ ps' : List Addr, (∀ p ∈ ps', p ∈ ps) → ∃ fs, PyProof.Rows.TupsOf h' (fun i => sh.getD i false) (ps'.map Value.ref) fs := by
        intro ps'
        induction ps' with
        | nil => exact fun _ => ⟨[], .nil⟩
        | cons p l ih =>
          intro hm
          obtain ⟨fs, hfs⟩ := ih fun x hx => hm x (List.mem_cons_of_mem _ hx)
          obtain ⟨r, us', o, n, e1, e2, e3, e4, e5, e6⟩ := at' p (hm p List.mem_cons_self)
          have hi := shv e3 e2
          cases sh with
          | nil => exact absurd rfl hne
          | cons b bs =>
            cases e2 with
            | nil => cases b <;> simp [shp] at e3
            | @cons v f vs' fs' hv ht =>
              refine ⟨f :: fs, .cons ⟨p, o, _, n, rfl, e4, e5, e6, by simp, fun hb => ?_, fun hb => ?_⟩ hfs⟩
              · have hb' : b = false := by simpa using hb
                subst hb'
                cases v <;> simp [shp] at e3
                obtain ⟨t, rfl⟩ := hv
                exact ⟨_, t, rfl⟩
              · have hb' : b = true := by simpa using hb
                subst hb'
                cases v <;> simp [shp] at e3
                obtain ⟨t, rfl⟩ := hv
                exact ⟨_, t, rfl⟩
      obtain ⟨fs, hfs⟩ := hT ps fun _ h => h
      rw [hits]
      refine PyProof.Rows.tup_kind (s := { s with heap := h' }) ?_ hfs hq
      have := PyProof.Rows.G.TupsOf.length hfs
      rw [this, List.length_map]
      rw [hits, List.length_map] at h2
      omega
    · -- any two compare
      intro p q' hm hm'
      have hm1 : p.1 ∈ its := hm
      have hm2 : q'.1 ∈ its := hm'
      rw [hits] at hm1 hm2
      obtain ⟨p1, hp1, e1⟩ := List.mem_map.mp hm1
      obtain ⟨p2, hp2, e2⟩ := List.mem_map.mp hm2
      obtain ⟨r1, us1, o1, n1, a1, a2, a3, a4, a5, a6⟩ := at' p1 hp1
      obtain ⟨r2, us2, o2, n2, b1, b2, b3, b4, b5, b6⟩ := at' p2 hp2
      show wpAny _ _ (PyProof.Rows.keyLt' (PyProof.Rows.tuples' true) p.1 q'.1) (fun r s' => s' = _ ∧ r = rowLt (keyV H p.1) (keyV H q'.1)) (fun _ _ => False) _
      rw [← e1, ← e2]
      refine PySem.W.kat_lt a4 a6 b4 b6 (PyProof.Rows.tup_lex _ _ 0 _ _ (shv a3 a2) (shv b3 b2) (by simp) ⟨rfl, ?_⟩)
      show _ = rowLt (rowAt H p1) (rowAt H p2)
      rw [rowAt_of a1, rowAt_of b1]
      rfl
  · -- behind
    have perm : out.Perm (ps.map Value.ref) := by rw [← hits]; exact hb.perm
    obtain ⟨qs, hqs⟩ : ∃ qs : List Addr, out = qs.map Value.ref := by
      have : ∀ l : List Value, (∀ v ∈ l, ∃ p, v = Value.ref p) → ∃ qs : List Addr, l = qs.map Value.ref := by
        intro l
        induction l with
        | nil => exact fun _ => ⟨[], rfl⟩
        | cons v l ih =>
          intro hv
          obtain ⟨qs, e⟩ := ih fun x hx => hv x (List.mem_cons_of_mem _ hx)
          obtain ⟨p, ep⟩ := hv v List.mem_cons_self
          exact ⟨p :: qs, by rw [List.map_cons, e, ep]⟩
      refine this out fun v hv => ?_
      obtain ⟨p, _, e⟩ := List.mem_map.mp (perm.mem_iff.mp hv)
      exact ⟨p, e.symm⟩
    subst hqs
    have permq : qs.Perm ps := by
      have e := perm.map (fun v : Value => match v with | .ref p => p | _ => 0)
      rw [List.map_map, List.map_map] at e
      have i1 : ∀ l : List Addr, l.map ((fun v : Value => match v with | .ref p => p | _ => 0) ∘ Value.ref) = l := fun l => by
        induction l with
        | nil => rfl
        | cons a l ih => rw [List.map_cons, ih]; rfl
      rw [i1, i1] at e
      exact e
    have hqt : ∀ q ∈ qs, ∃ r, H q = some (.tup r) := fun x hx => by
      obtain ⟨r, _, e, _⟩ := tupAt x (permq.mem_iff.mp hx)
      exact ⟨r, e⟩
    have vq : Vals (qs.map V.ref) (qs.map Value.ref) := by
      have : ∀ l : List Addr, Vals (l.map V.ref) (l.map Value.ref) := fun l => by
        induction l with
        | nil => exact .nil
        | cons a l ih => exact .cons rfl ih
      exact this qs
    obtain ⟨n, hn⟩ := PyProof.Rows.sortedAll_at s.heap its (qs.map Value.ref).toArray
    have fresh := I.hok.fresh (Nat.le_succ s.heap.objs.size)
    refine ⟨.ref (s.heap.objs.size + 1), upd H (s.heap.objs.size + 1) (.lst (qs.map V.ref)), I.laid (t' := s.toks) (fun b o e => PyProof.Rows.sortedAll_old e) (Nat.le_succ _) ⟨?_, qs.map Value.ref, n, vq, hn⟩, rfl,
      q qs (qs.map (rowAt H)) _ (by rw [eq]; exact permq.map _) (paired_rows hqt) (List.pairwise_map.mpr ?_) fresh⟩
    · rw [List.length_map, permq.length_eq, ← List.length_map V.ref]; exact hz
    · exact (List.pairwise_map.mp hs)
end
/-! ### t < u for pairs of a text and a whole number -/
def siLt (a b : Str × Int) : Bool := if a.1 = b.1 then decide (a.2 < b.2) else decide (a.1.cps.toList < b.1.cps.toList)
def rLtSI : R2 := fun x y H Q => ∃ (a b : Addr) (p q : Str × Int), x = .ref a ∧ y = .ref b ∧ H a = some (.tup [.str p.1, .int p.2]) ∧ H b = some (.tup [.str q.1, .int q.2]) ∧ Q (.bl (siLt p q)) H
section
variable {X : Cx}
theorem op_ltSI (hu : X.A.units < cLine) : OpR X (compareOp .Lt) rLtSI := by
  intro pins s σ H x y v u Q I rx ry h
  obtain ⟨a, b, ⟨p1, p2⟩, ⟨q1, q2⟩, rfl, rfl, ha, hb, q⟩ := h
  cases rx
  cases ry
  obtain ⟨its, r1, t1, _⟩ := I.tuple (SqT.of ha)
  obtain ⟨its2, r2, t2, _⟩ := I.tuple (SqT.of hb)
  cases r1 with
  | cons c1 r1 =>
    cases r1 with
    | cons c2 r1 =>
      cases r1
      cases r2 with
      | cons d1 r2 =>
        cases r2 with
        | cons d2 r2 =>
          cases r2
          obtain ⟨k1, rfl⟩ := c1
          obtain ⟨k2, rfl⟩ := c2
          obtain ⟨l1, rfl⟩ := d1
          obtain ⟨l2, rfl⟩ := d2
          have key := PySem.SeqAt.RcLt.tuples (A := X.A) (s := s) (e := fun j => if j = 0 then decide (p1 = q1) else decide (p2 = q2)) (r := fun j => if j = 0 then decide (p1.cps.toList < q1.cps.toList) else decide (p2 < q2)) t1 t2 hu
            (fun j h1 h2 => ?_) (fun j h1 h2 he => ?_)
          · refine key X.prog X.w X.xe _ ⟨.bl (siLt (p1, p2) (q1, q2)), H, I, ?_, q⟩
            show Value.bool _ = Value.bool _
            congr 1
            unfold siLt
            by_cases e1 : p1 = q1
            · subst e1
              by_cases e2 : p2 = q2
              · subst e2
                simp [SeqAt.firstLt, List.range, List.range.loop]
              · simp [SeqAt.firstLt, List.range, List.range.loop, e2]
            · simp [SeqAt.firstLt, List.range, List.range.loop, e1]
          · have : j = 0 ∨ j = 1 := by simp at h1; omega
            rcases this with rfl | rfl
            · intro P' w' E' Q' hq
              exact wpAny_eqBool_str hq
            · intro P' w' E' Q' hq
              exact wpAny_eqBool_int (by rw [Bool.beq_eq_decide_eq]; exact hq)
          · have : j = 0 ∨ j = 1 := by simp at h1; omega
            rcases this with rfl | rfl
            · intro P' w' E' Q' hq
              exact PyProof.Rows.lt_str hq
            · intro P' w' E' Q' hq
              exact PyProof.Rows.lt_int hq
end
/-! ### sorted(d), d a dict of texts of any number: its keys in some order -/
section
variable {X : Cx}
theorem cr_sortedKeys (hc : X.calm = true) : CallR X (.builtin "sorted") (fun xs H Q => ∃ (a : Addr) (kvs : List (Key × V)) (ks : List Str), xs = [.ref a] ∧ H a = some (.dK kvs) ∧ kvs.map (·.1) = ks.map Sum.inr ∧
    ∀ (ys : List Str) (p : Addr), ys.Perm ks → H p = none → Q (.ref p) (upd H p (.lst (ys.map V.str)))) := by
  intro pins s σ H xs us Q I r q
  obtain ⟨a, kvs, ks, rfl, hd, hks, q⟩ := q
  obtain ⟨u, rfl, ru⟩ := vals1 r
  obtain rfl : u = Value.ref a := ru
  obtain ⟨hlen, lo, vs, rel, dd⟩ := dk_rd I.hok (.inl hd)
  obtain ⟨ep, hat⟩ := dd.dictAt
  have hkeys : vs.map (·.1) = ks.map Sum.inr := rel.keys.symm.trans hks
  have hl : vs.length = ks.length := by simpa using congrArg List.length hkeys
  have hl2 : kvs.length = ks.length := by simpa using congrArg List.length hks
  have hsz : ks.length ≤ sizeLine := hl2 ▸ hlen
  refine Calls.call_function_entry PyProof.Rows.kind_sorted PyProof.Rows.plain_sorted PyProof.Rows.entry_sorted (PyProof.Rows.args_sorted1 _) ?_
  unfold Builtin.«sorted»
  refine wpAny_bind (m := checkCount "sorted" 1 1 _) (wpAny_pure ?_)
  refine wpAny_bind (PySem.W.kdu_collect (A := X.A.in1) (PySem.W.kdl_dict (knd := mixKind X.prog X.w) (kvs := vs) (ep := ep) lo) (I.ok.hd hc) hat (by rw [hl]; exact hsz) fun h' tk acc hk hacc => ?_)
  have hal : acc.toList.length = ks.length := by rw [Array.length_toList, hacc.1, hl]
  have hS : PyProof.Rows.StrsAre acc.toList ks := strs_at hal fun j v e => by
    obtain ⟨k, x, e1, e2⟩ := hacc.2 j v (by rw [← Array.getElem?_toList]; exact e)
    have e3 : (vs.map (·.1))[j]? = some k := by rw [List.getElem?_map, e1]; rfl
    rw [hkeys, List.getElem?_map] at e3
    obtain ⟨y, hy, rfl⟩ := Option.map_eq_some_iff.mp e3
    obtain ⟨t, ev⟩ := Value.isStrOf_shape (x := y) (v := v) e2
    exact ⟨y, t, hy, ev⟩
  have I1 : Inv X pins σ H { s with heap := h', toks := tk } := I.kept hk
  refine wpAny_bind (wpAny_newList ?_ (by rw [hal]; exact hsz))
  have hoL : (h'.push (PyProof.Rows.seqObj "list" acc.toList.toArray 0)).get? h'.objs.size = some (PyProof.Rows.seqObj "list" acc.toList.toArray 0) := Heap.get?_push_size _ rfl
  show wpAny _ _ _ _ _ { s with heap := h'.push (PyProof.Rows.seqObj "list" acc.toList.toArray 0), toks := tk }
  refine wpAny_bind (wpAny_holding (wpAny_call_entry PyProof.Rows.slot_list_sort ⟨_, hoL, rfl⟩ PyProof.Rows.entry_list_sort
    (PyProof.Rows.list_sort_treeKAny PyProof.Rows.strKind_oneLt (s := { s with heap := h'.push (PyProof.Rows.seqObj "list" acc.toList.toArray 0), toks := tk }) hoL hS.keysOf (fun v1 v2 rest e => PyProof.Rows.keyKind_strs (by rw [← e]; exact hS)) (by rw [hal]; exact hsz) fun st' hp hs => ⟨_, rfl, ?_⟩)
    (PyProof.Rows.args_list_sort _)))
  obtain ⟨ys, g1, g2, _⟩ := PyProof.Rows.sorted_out_str hS hp hs
  obtain ⟨e', he'⟩ := PyProof.Rows.sortedHeap_at (vs := acc.toList) (out := (PyProof.Rows.arrOf st').map (·.2)) hoL
  have hlen : (ys.map V.str).length ≤ sizeLine := by
    rw [List.length_map, g2.length_eq]; exact hsz
  refine wpAny_pure ⟨_, rfl, .ref h'.objs.size, upd H h'.objs.size (.lst (ys.map V.str)), I1.laid (t' := tk) (fun b u e => ?_) (Nat.le_refl _)
    (show ObjOk X.prog X.w _ _ _ (.lst (ys.map V.str)) from ⟨hlen, ((PyProof.Rows.arrOf st').map (·.2)).toList, e', vals_of_strs g1, by rw [Array.toArray_toList]; exact he'⟩), rfl, q ys _ g2 (I1.hok.fresh (Nat.le_refl _))⟩
  have hb : b < h'.objs.size := Heap.lt_size e
  rw [PyProof.Rows.sortedHeap_old (Nat.ne_of_lt hb) (by rw [PyProof.Rows.size_push']; exact Nat.lt_succ_of_lt hb)]
  exact Heap.get?_push_of_some _ e
end
end Sfx
end
section
set_option Elab.async false
set_option linter.all false
set_option maxRecDepth 100000
set_option maxHeartbeats 4000000
/-! Orders of rows; the house's lists as lists of data. -/
namespace Sfx
open PySem PySem.Spec L2
theorem str_ext {x y : Str} (h : x.cps.toList = y.cps.toList) : x = y := by
  cases x; cases y
  simp only [Str.mk.injEq]
  exact Array.toList_inj.mp h
abbrev LO := PyProof.Rows.listOrd PyProof.Rows.itemOrd
theorem rowLt_irrefl (x : List V) : rowLt x x = false := LO.irrefl (rowKey x)
theorem rowLt_trans {x y z : List V} (h : rowLt x y = true) (g : rowLt y z = true) : rowLt x z = true := LO.trans _ _ _ h g
theorem rowLt_asym {x y : List V} (h : rowLt x y = true) : rowLt y x = false := by
  cases q : rowLt y x with
  | false => rfl
  | true => have := rowLt_trans h q; rw [rowLt_irrefl] at this; cases this
theorem rowKey_inj : ∀ {sh : List Bool} {x y : List V}, shp sh x = true → shp sh y = true → rowKey x = rowKey y → x = y
  | [], [], [], _, _, _ => rfl
  | [], [], _ :: _, _, h, _ => by simp [shp] at h
  | [], _ :: _, _, h, _, _ => by simp [shp] at h
  | b :: s, [], _, h, _, _ => by cases b <;> simp [shp] at h
  | b :: s, _ :: _, [], _, h, _ => by cases b <;> simp [shp] at h
  | b :: s, u :: x, v :: y, h, g, e => by
    have e1 : ik u = ik v ∧ rowKey x = rowKey y := by simpa [rowKey] using e
    cases b with
    | false =>
      cases u <;> simp [shp] at h
      cases v <;> simp [shp] at g
      obtain ⟨q1, q2⟩ := e1
      have q := rowKey_inj (sh := s) h g q2
      simp [ik] at q1
      rw [q, q1]
    | true =>
      cases u <;> simp [shp] at h
      cases v <;> simp [shp] at g
      obtain ⟨q1, q2⟩ := e1
      have q := rowKey_inj (sh := s) h g q2
      have q3 := str_ext (by simpa [ik] using q1)
      rw [q, q3]
/-- two sorted arrangements are one -/
theorem sorted_uniq {sh : List Bool} {l m : List (List V)} (hs : ∀ r ∈ l, shp sh r = true) (p : l.Perm m) (hl : l.Pairwise (fun x y => rowLt y x = false)) (hm : m.Pairwise (fun x y => rowLt y x = false)) : l = m :=
  List.Perm.eq_of_pairwise (fun a b ha hb h1 h2 => rowKey_inj (hs a ha) (hs b (p.mem_iff.mpr hb)) (LO.total _ _ h2 h1)) hl hm p
theorem rowLt_int {a b : Int} {x y : List V} : rowLt (.int a :: x) (.int b :: y) = (decide (a < b) || (!decide (b < a) && rowLt x y)) := PyProof.Rows.lex_cons _ _ _ _
theorem rowLt_str {a b : Str} {x y : List V} : rowLt (.str a :: x) (.str b :: y) = (decide (a.cps.toList < b.cps.toList) || (!decide (b.cps.toList < a.cps.toList) && rowLt x y)) := PyProof.Rows.lex_cons _ _ _ _
theorem rowLt_str_eq {a : Str} {x y : List V} : rowLt (.str a :: x) (.str a :: y) = rowLt x y := PyProof.Rows.lex_self _ _ _
theorem rowLt_int_eq {a : Int} {x y : List V} : rowLt (.int a :: x) (.int a :: y) = rowLt x y := PyProof.Rows.lex_self _ _ _
theorem rowLt_str_ne {a b : Str} {x y : List V} (h : a ≠ b) : rowLt (.str a :: x) (.str b :: y) = decide (a.cps.toList < b.cps.toList) :=
  PyProof.Rows.lex_diff (O := PyProof.Rows.itemOrd) (x := Sum.inr a.cps.toList) (y := Sum.inr b.cps.toList) fun e => h (str_ext (Sum.inr.inj e))
theorem siLt_row (p q : Str × Int) : siLt p q = rowLt [.str p.1, .int p.2] [.str q.1, .int q.2] := by
  unfold siLt
  by_cases e : p.1 = q.1
  · rw [if_pos e, e, rowLt_str_eq, rowLt_int]
    have : rowLt [] [] = false := rfl
    rw [this]; simp
  · rw [if_neg e, rowLt_str_ne e]
theorem siLt_irrefl (p : Str × Int) : siLt p p = false := by rw [siLt_row]; exact rowLt_irrefl _
theorem siLt_trans {p q r : Str × Int} (h : siLt p q = true) (g : siLt q r = true) : siLt p r = true := by rw [siLt_row] at *; exact rowLt_trans h g
theorem siLt_total {p q : Str × Int} (h : p ≠ q) : siLt p q = true ∨ siLt q p = true := by
  rw [siLt_row, siLt_row]
  cases a : rowLt [.str p.1, .int p.2] [.str q.1, .int q.2] with
  | true => exact .inl rfl
  | false =>
    cases b : rowLt [.str q.1, .int q.2] [.str p.1, .int p.2] with
    | true => exact .inr rfl
    | false =>
      have e : ([.str p.1, .int p.2] : List V) = [.str q.1, .int q.2] := rowKey_inj (sh := [true, false]) rfl rfl (LO.total (rowKey [.str p.1, .int p.2]) (rowKey [.str q.1, .int q.2]) a b)
      simp at e
      exact absurd (Prod.ext e.1 e.2) h
/-! ### texts by their numbers -/
def insN (ts : List (Int × Str)) (n : Int) (z : Str) : List (Int × Str) := ts.filter (fun t => decide (t.1 < n)) ++ (n, z) :: ts.filter (fun t => decide (n < t.1))
abbrev Asc (ts : List (Int × Str)) : Prop := ts.Pairwise fun a b => a.1 < b.1
theorem asc_insN {ts : List (Int × Str)} {n : Int} {z : Str} (h : Asc ts) : Asc (insN ts n z) := by
  unfold insN
  refine List.pairwise_append.mpr ⟨h.sublist List.filter_sublist, List.pairwise_cons.mpr ⟨fun t ht => ?_, h.sublist List.filter_sublist⟩, fun a ha b hb => ?_⟩
  · simpa using (List.mem_filter.mp ht).2
  · have h1 : a.1 < n := by simpa using (List.mem_filter.mp ha).2
    rcases List.mem_cons.mp hb with rfl | hb
    · exact h1
    · have h2 : n < b.1 := by simpa using (List.mem_filter.mp hb).2
      omega
theorem asc_rows {ts : List (Int × Str)} (h : Asc ts) : (ts.map hrow).Pairwise (fun x y => rowLt y x = false) := by
  refine List.pairwise_map.mpr (h.imp fun {a b} l => ?_)
  show rowLt (.int b.1 :: [.str b.2]) (.int a.1 :: [.str a.2]) = false
  rw [rowLt_int]
  have h1 : decide (b.1 < a.1) = false := decide_eq_false (by omega)
  have h2 : decide (a.1 < b.1) = true := decide_eq_true l
  rw [h1, h2]; rfl
theorem perm_insN : ∀ {ts : List (Int × Str)} {n : Int} {z : Str}, (∀ t ∈ ts, t.1 ≠ n) → (insN ts n z).Perm (ts ++ [(n, z)])
  | [], _, _, _ => by simp [insN]
  | t :: r, n, z, h => by
    have ih := perm_insN (ts := r) (n := n) (z := z) fun x hx => h x (List.mem_cons_of_mem _ hx)
    have ht := h t List.mem_cons_self
    unfold insN at ih ⊢
    rw [List.filter_cons, List.filter_cons]
    by_cases l : t.1 < n
    · have l2 : ¬ n < t.1 := by omega
      simp only [l, l2, decide_true, decide_false, if_true, List.cons_append]
      simpa using ih
    · have l2 : n < t.1 := by omega
      simp only [l, l2, decide_true, decide_false, if_true, List.cons_append]
      refine List.Perm.trans ?_ (List.Perm.cons t ih)
      simp only [Bool.false_eq_true, if_false]
      exact (List.perm_middle (l₁ := r.filter (fun t => decide (t.1 < n)) ++ [(n, z)]) (a := t) (l₂ := r.filter (fun t => decide (n < t.1)))).trans (by simp) |> fun p => by simpa using p
theorem shp_hrow (ts : List (Int × Str)) : ∀ r ∈ ts.map hrow, shp [false, true] r = true := fun r hr => by
  obtain ⟨t, _, rfl⟩ := List.mem_map.mp hr
  rfl
theorem sorted_insN {ts : List (Int × Str)} {n : Int} {z : Str} {rows' : List (List V)} (ha : Asc ts) (hn : ∀ t ∈ ts, t.1 ≠ n) (p : rows'.Perm ((ts ++ [(n, z)]).map hrow)) (hs : rows'.Pairwise (fun x y => rowLt y x = false)) :
    rows' = (insN ts n z).map hrow :=
  sorted_uniq (sh := [false, true]) (fun r hr => shp_hrow _ r (p.mem_iff.mp hr)) (p.trans ((perm_insN hn).map hrow).symm) hs (asc_rows (asc_insN ha))
theorem txt_mem : ∀ {ts : List (Int × Str)} {n : Int} {z : Str}, txt ts n = some z → (n, z) ∈ ts
  | [], _, _, h => by simp [txt] at h
  | (m, y) :: r, n, z, h => by
    unfold txt at h
    by_cases e : m = n
    · rw [if_pos e] at h; cases h; rw [e]; exact List.mem_cons_self
    · rw [if_neg e] at h; exact List.mem_cons_of_mem _ (txt_mem h)
theorem txt_none : ∀ {ts : List (Int × Str)} {n : Int}, txt ts n = none ↔ ∀ t ∈ ts, t.1 ≠ n
  | [], _ => by simp [txt]
  | (m, y) :: r, n => by
    unfold txt
    by_cases e : m = n
    · rw [if_pos e]; simp [e]
    · rw [if_neg e, txt_none (ts := r)]; simp [e]
theorem txt_of_mem {ts : List (Int × Str)} {n : Int} {z : Str} (ha : Asc ts) (h : (n, z) ∈ ts) : txt ts n = some z := by
  induction ts with
  | nil => cases h
  | cons t r ih =>
    obtain ⟨m, y⟩ := t
    obtain ⟨h1, h2⟩ := List.pairwise_cons.mp ha
    unfold txt
    rcases List.mem_cons.mp h with e | h
    · cases e; rw [if_pos rfl]
    · have : m < n := h1 _ h
      rw [if_neg (by omega)]; exact ih h2 h
theorem mem_insN {ts : List (Int × Str)} {n : Int} {z : Str} (hn : ∀ t ∈ ts, t.1 ≠ n) {t : Int × Str} : t ∈ insN ts n z ↔ t ∈ ts ∨ t = (n, z) := by
  rw [(perm_insN hn).mem_iff]; simp
theorem txt_insN {ts : List (Int × Str)} {n m : Int} {z : Str} (ha : Asc ts) (hn : ∀ t ∈ ts, t.1 ≠ n) : txt (insN ts n z) m = if m = n then some z else txt ts m := by
  by_cases e : m = n
  · subst e
    rw [if_pos rfl]
    exact txt_of_mem (asc_insN ha) ((mem_insN hn).mpr (.inr rfl))
  · rw [if_neg e]
    cases q : txt ts m with
    | none =>
      refine txt_none.mpr fun t ht => ?_
      rcases (mem_insN hn).mp ht with h | h
      · exact txt_none.mp q t h
      · rw [h]; exact fun z => e z.symm
    | some y => exact txt_of_mem (asc_insN ha) ((mem_insN hn).mpr (.inl (txt_mem q)))
/-! ### ends -/
def sufS (z : Str) (k : Nat) : Str := ⟨(z.cps.toList.drop k).toArray⟩
theorem sufS_list (z : Str) (k : Nat) : (sufS z k).cps.toList = z.cps.toList.drop k := rfl
def strLen (z : Str) : Nat := z.cps.toList.length
def erow (e : Int × Nat) : List V := [.int e.1, .int (e.2 : Nat)]
def endsOf (t : Int × Str) : List (Int × Nat) := (List.range (strLen t.2 + 1)).map fun k => (t.1, k)
def ends (ts : List (Int × Str)) : List (Int × Nat) := ts.flatMap endsOf
def keyE (ts : List (Int × Str)) (e : Int × Nat) : Str × Int := (sufS ((txt ts e.1).getD ⟨#[]⟩) e.2, e.1)
def ltE (ts : List (Int × Str)) (e f : Int × Nat) : Bool := siLt (keyE ts e) (keyE ts f)
def IsOrder (ts : List (Int × Str)) (l : List (Int × Nat)) : Prop := l.Perm (ends ts) ∧ l.Pairwise fun e f => ltE ts e f = true
theorem ltE_asym {ts : List (Int × Str)} {e f : Int × Nat} (h : ltE ts e f = true) (g : ltE ts f e = true) : False := by
  have := siLt_trans h g
  rw [siLt_irrefl] at this
  cases this
theorem IsOrder.uniq {ts : List (Int × Str)} {l m : List (Int × Nat)} (h : IsOrder ts l) (g : IsOrder ts m) : l = m :=
  List.Perm.eq_of_pairwise (fun a b _ _ h1 h2 => (ltE_asym h1 h2).elim) h.2 g.2 (h.1.trans g.1.symm)
theorem mem_ends {ts : List (Int × Str)} {e : Int × Nat} : e ∈ ends ts ↔ ∃ z, (e.1, z) ∈ ts ∧ e.2 ≤ strLen z := by
  obtain ⟨m, k⟩ := e
  unfold ends endsOf
  simp only [List.mem_flatMap, List.mem_map, List.mem_range]
  constructor
  · rintro ⟨t, ht, k', hk, e⟩
    cases e
    exact ⟨t.2, ht, Nat.le_of_lt_succ hk⟩
  · rintro ⟨z, hz, hk⟩
    exact ⟨(m, z), hz, k, Nat.lt_succ_of_le hk, rfl⟩
/-! ### merging -/
def mergeE {α : Type} (lt : α → α → Bool) : List α → List α → List α
  | [], t => t
  | x :: r, [] => x :: r
  | x :: r, e :: t => if lt x e = true then x :: mergeE lt r (e :: t) else e :: mergeE lt (x :: r) t
termination_by l m => l.length + m.length
theorem mergeE_nil {α : Type} {lt : α → α → Bool} (l : List α) : mergeE lt l [] = l := by cases l <;> simp [mergeE]
theorem mergeE_perm {α : Type} {lt : α → α → Bool} : ∀ (l m : List α), (mergeE lt l m).Perm (l ++ m)
  | [], t => by simp [mergeE]
  | x :: r, [] => by simp [mergeE]
  | x :: r, e :: t => by
    rw [mergeE]
    by_cases h : lt x e = true
    · rw [if_pos h]
      exact (mergeE_perm r (e :: t)).cons x
    · rw [if_neg h]
      refine ((mergeE_perm (x :: r) t).cons e).trans ?_
      exact (List.perm_middle (l₁ := x :: r) (a := e) (l₂ := t)).symm
termination_by l m => l.length + m.length
theorem mergeE_sorted {α : Type} {lt : α → α → Bool} (tr : ∀ x y z, lt x y = true → lt y z = true → lt x z = true) : ∀ (l m : List α), l.Pairwise (fun x y => lt x y = true) → m.Pairwise (fun x y => lt x y = true) → (∀ x ∈ l, ∀ y ∈ m, lt x y = true ∨ lt y x = true) → (mergeE lt l m).Pairwise (fun x y => lt x y = true)
  | [], t, _, h, _ => by simpa [mergeE] using h
  | x :: r, [], h, _, _ => by simpa [mergeE] using h
  | x :: r, e :: t, h, g, tot => by
    rw [mergeE]
    obtain ⟨h1, h2⟩ := List.pairwise_cons.mp h
    obtain ⟨g1, g2⟩ := List.pairwise_cons.mp g
    by_cases q : lt x e = true
    · rw [if_pos q]
      refine List.pairwise_cons.mpr ⟨fun y hy => ?_, mergeE_sorted tr r (e :: t) h2 g fun a ha b hb => tot a (List.mem_cons_of_mem _ ha) b hb⟩
      rcases List.mem_append.mp ((mergeE_perm r (e :: t)).mem_iff.mp hy) with hy | hy
      · exact h1 y hy
      · rcases List.mem_cons.mp hy with rfl | hy
        · exact q
        · exact tr _ _ _ q (g1 y hy)
    · rw [if_neg q]
      have q' : lt e x = true := (tot x List.mem_cons_self e List.mem_cons_self).resolve_left q
      refine List.pairwise_cons.mpr ⟨fun y hy => ?_, mergeE_sorted tr (x :: r) t h g2 fun a ha b hb => tot a ha b (List.mem_cons_of_mem _ hb)⟩
      rcases List.mem_append.mp ((mergeE_perm (x :: r) t).mem_iff.mp hy) with hy | hy
      · rcases List.mem_cons.mp hy with rfl | hy
        · exact q'
        · exact tr _ _ _ q' (h1 y hy)
      · exact g1 y hy
termination_by l m => l.length + m.length
/-! ### what order_with and order_without make -/
/-- the new text's ends, sorted by their letters -/
theorem newEnds_sorted {z : Str} {n : Int} {ts : List (Int × Str)} (ht : txt ts n = some z) {ks : List Nat} (hk : ∀ k ∈ ks, k ≤ strLen z) (nd : ks.Nodup)
    (hs : (ks.map fun k => ([.str (sufS z k), .int (k : Nat)] : List V)).Pairwise (fun x y => rowLt y x = false)) : (ks.map fun k => (n, k)).Pairwise fun e f => ltE ts e f = true := by
  rw [List.pairwise_map] at hs ⊢
  refine (List.pairwise_iff_getElem.mpr fun i j hi hj lij => ?_)
  have h1 := List.pairwise_iff_getElem.mp hs i j hi hj lij
  have ne : ks[i] ≠ ks[j] := fun e => by
    have := (List.getElem_inj nd).mp e
    omega
  have b1 := hk _ (List.getElem_mem hi)
  have b2 := hk _ (List.getElem_mem hj)
  have nes : sufS z ks[i] ≠ sufS z ks[j] := fun e => by
    have e2 := congrArg (fun y : Str => y.cps.toList.length) e
    simp only [sufS_list, List.length_drop] at e2
    unfold strLen at b1 b2
    omega
  show siLt _ _ = true
  have t : siLt (sufS z ks[i], n) (sufS z ks[j], n) = true := by
    rw [siLt_row, rowLt_str_ne nes]
    rw [rowLt_str_ne (Ne.symm nes)] at h1
    cases q : decide ((sufS z ks[i]).cps.toList < (sufS z ks[j]).cps.toList) with
    | true => rfl
    | false =>
      have a1 : ¬ (sufS z ks[i]).cps.toList < (sufS z ks[j]).cps.toList := of_decide_eq_false q
      have a2 : ¬ (sufS z ks[j]).cps.toList < (sufS z ks[i]).cps.toList := of_decide_eq_false h1
      exact absurd (str_ext (List.le_antisymm (List.not_lt.mp a2) (List.not_lt.mp a1))) nes
  unfold keyE
  rw [ht]
  exact t
theorem keyE_congr {ts us : List (Int × Str)} {e : Int × Nat} (h : txt ts e.1 = txt us e.1) : keyE ts e = keyE us e := by unfold keyE; rw [h]
theorem order_ins {ts : List (Int × Str)} {n : Int} {z : Str} {o : List (Int × Nat)} {ks : List Nat} (ha : Asc ts) (hn : ∀ t ∈ ts, t.1 ≠ n) (ho : IsOrder ts o) (hp : ks.Perm (List.range (strLen z + 1)))
    (hs : (ks.map fun k => ([.str (sufS z k), .int (k : Nat)] : List V)).Pairwise (fun x y => rowLt y x = false)) :
    IsOrder (insN ts n z) (mergeE (ltE (insN ts n z)) o (ks.map fun k => (n, k))) := by
  have tn : txt (insN ts n z) n = some z := by rw [txt_insN ha hn, if_pos rfl]
  have nd : ks.Nodup := hp.symm.nodup (List.nodup_range)
  have hk : ∀ k ∈ ks, k ≤ strLen z := fun k h => by have := List.mem_range.mp (hp.mem_iff.mp h); omega
  have on : ∀ e ∈ o, e.1 ≠ n := fun e he => by
    obtain ⟨y, hy, _⟩ := mem_ends.mp (ho.1.mem_iff.mp he)
    exact hn _ hy
  have kc : ∀ e ∈ o, keyE (insN ts n z) e = keyE ts e := fun e he => keyE_congr (by rw [txt_insN ha hn, if_neg (on e he)])
  have so : o.Pairwise fun e f => ltE (insN ts n z) e f = true := by
    refine (List.Pairwise.imp_of_mem (fun {a b} ma mb h => ?_) ho.2)
    unfold ltE
    rw [kc a ma, kc b mb]
    exact h
  have sk := newEnds_sorted tn hk nd hs
  refine ⟨?_, mergeE_sorted (lt := ltE (insN ts n z)) (fun x y z => siLt_trans) _ _ so sk fun x hx y hy => ?_⟩
  · refine (mergeE_perm _ _).trans ?_
    have e1 : (ends (insN ts n z)).Perm (ends (ts ++ [(n, z)])) := List.Perm.flatMap_right _ (perm_insN hn)
    have e2 : ends (ts ++ [(n, z)]) = ends ts ++ endsOf (n, z) := by unfold ends; rw [List.flatMap_append]; simp
    rw [e2] at e1
    refine List.Perm.trans ?_ e1.symm
    exact ho.1.append (hp.map _)
  · obtain ⟨k, _, rfl⟩ := List.mem_map.mp hy
    exact siLt_total fun e => on x hx (congrArg (·.2) e)
theorem order_del {ts : List (Int × Str)} {n : Int} {o : List (Int × Nat)} (ho : IsOrder ts o) : IsOrder (ts.filter fun t => decide (t.1 ≠ n)) (o.filter fun e => decide (e.1 ≠ n)) := by
  have tx : ∀ m, m ≠ n → txt (ts.filter fun t => decide (t.1 ≠ n)) m = txt ts m := by
    intro m hm
    clear ho
    induction ts with
    | nil => rfl
    | cons t r ih =>
      obtain ⟨a, y⟩ := t
      rw [List.filter_cons]
      by_cases e : a = n
      · have : ¬ a = m := fun z => hm (z.symm.trans e)
        simp only [e, ne_eq, not_true, decide_false, Bool.false_eq_true, if_false, txt]
        rw [if_neg (e ▸ this)]
        exact ih
      · simp only [e, ne_eq, not_false_iff, decide_true, if_true, txt]
        by_cases q : a = m
        · rw [if_pos q, if_pos q]
        · rw [if_neg q, if_neg q]; exact ih
  refine ⟨?_, ?_⟩
  · refine (ho.1.filter _).trans ?_
    have : (ends ts).filter (fun e => decide (e.1 ≠ n)) = ends (ts.filter fun t => decide (t.1 ≠ n)) := by
      clear ho tx
      unfold ends
      induction ts with
      | nil => rfl
      | cons t r ih =>
        rw [List.flatMap_cons, List.filter_append, ih, List.filter_cons]
        by_cases e : t.1 = n
        · have : (endsOf t).filter (fun e => decide (e.1 ≠ n)) = [] := by
            refine List.filter_eq_nil_iff.mpr fun x hx => ?_
            obtain ⟨k, _, rfl⟩ := List.mem_map.mp hx
            simp [e]
          rw [this, List.nil_append, if_neg (by simp [e])]
        · have : (endsOf t).filter (fun e => decide (e.1 ≠ n)) = endsOf t := by
            refine List.filter_eq_self.mpr fun x hx => ?_
            obtain ⟨k, _, rfl⟩ := List.mem_map.mp hx
            simp [e]
          rw [this, if_pos (by simp [e]), List.flatMap_cons]
    rw [this]
  · refine List.Pairwise.imp_of_mem (fun {a b} ma mb h => ?_) (ho.2.sublist List.filter_sublist)
    have ha : a.1 ≠ n := by simpa using (List.mem_filter.mp ma).2
    have hb : b.1 ≠ n := by simpa using (List.mem_filter.mp mb).2
    unfold ltE
    rw [keyE_congr (tx a.1 ha), keyE_congr (tx b.1 hb)]
    exact h
/-! ### commons -/
def lcp : List Nat → List Nat → Nat
  | x :: r, y :: t => if x = y then lcp r t + 1 else 0
  | _, _ => 0
def letE (ts : List (Int × Str)) (e : Int × Nat) : List Nat := (keyE ts e).1.cps.toList
def comms (L : List (List Nat)) : List Nat := (List.range L.length).map fun k => if k = 0 then 0 else lcp (L.getD (k - 1) []) (L.getD k [])
theorem lcp_le : ∀ (x y : List Nat), lcp x y ≤ x.length ∧ lcp x y ≤ y.length
  | [], _ => by simp [lcp]
  | _ :: _, [] => by simp [lcp]
  | a :: r, b :: t => by
    unfold lcp
    have := lcp_le r t
    by_cases h : a = b
    · rw [if_pos h]; simp; omega
    · rw [if_neg h]; simp
/-- reading on: as long as the letters are the same -/
theorem lcp_step : ∀ {x y : List Nat} {k : Nat}, x.take k = y.take k → k ≤ x.length → k ≤ y.length → k ≤ lcp x y
  | _, _, 0, _, _, _ => Nat.zero_le _
  | [], _, _ + 1, _, h, _ => by simp at h
  | _ :: _, [], _ + 1, _, _, h => by simp at h
  | a :: r, b :: t, k + 1, e, h1, h2 => by
    simp at e
    unfold lcp
    rw [if_pos e.1]
    have := lcp_step (x := r) (y := t) (k := k) e.2 (by simpa using h1) (by simpa using h2)
    omega
theorem lcp_take : ∀ (x y : List Nat), x.take (lcp x y) = y.take (lcp x y)
  | [], y => by simp [lcp]
  | _ :: _, [] => by simp [lcp]
  | a :: r, b :: t => by
    unfold lcp
    by_cases h : a = b
    · rw [if_pos h, List.take_succ_cons, List.take_succ_cons, lcp_take r t, h]
    · rw [if_neg h]; rfl
theorem lcp_stop {x y : List Nat} {k : Nat} {a b : Nat} (h1 : x[k]? = some a) (h2 : y[k]? = some b) (h : a ≠ b) : lcp x y ≤ k := by
  rcases Nat.lt_or_ge k (lcp x y) with l | l
  · have e := congrArg (fun z : List Nat => z[k]?) (lcp_take x y)
    simp only [List.getElem?_take_of_lt l] at e
    rw [h1, h2] at e
    exact absurd (Option.some.inj e) h
  · exact l
end Sfx
end
section
set_option Elab.async false
set_option linter.all false
set_option maxRecDepth 100000
set_option maxHeartbeats 4000000
namespace Sfx
open PySem PySem.Spec L2
/-- what the top has written: the built-in names are free, three constants -/
structure Txt (mg : Str → Option Value) : Prop where
  len : mg "len" = none
  all : mg "all" = none
  ord : mg "ord" = none
  sorted : mg "sorted" = none
  range : mg "range" = none
  min : mg "min" = none
  max : mg "max" = none
  int : mg "int" = none
  abs : mg "abs" = none
  dict : mg "dict" = none
  list : mg "list" = none
  set : mg "set" = none
  repr : mg "repr" = none
  isinstance : mg "isinstance" = none
  ValueError : mg "ValueError" = none
  MOST_TEXTS : ∃ t, mg "MOST_TEXTS" = some (.int 8 t)
  MOST_LETTERS : ∃ t, mg "MOST_LETTERS" = some (.int 40 t)
  MOST_NUMBER : ∃ t, mg "MOST_NUMBER" = some (.int 99 t)
/-- a word of the three letters -/
def Ltr (z : Str) : Prop := ∀ c ∈ z.cps.toList, c = 97 ∨ c = 98 ∨ c = 122
structure GoodTs (ts : List (Int × Str)) : Prop where
  asc : Asc ts
  num : ∀ t ∈ ts, 0 ≤ t.1 ∧ t.1 ≤ 99
  ltr : ∀ t ∈ ts, Ltr t.2
  len : ∀ t ∈ ts, strLen t.2 ≤ 40
  most : ts.length ≤ 8
def putKind (ts : List (Int × Str)) (n : Int) (z : Str) : Option Nat :=
  if ¬ (0 ≤ n ∧ n ≤ 99) then some 0 else if (txt ts n).isSome = true then some 1 else if 40 < strLen z then some 2 else if ts.length = 8 then some 3 else none
/-- an error of the class C that tells n -/
def Err (H : Hp) (E : XK) (n : Int) (C : Addr) : Prop := ∀ d H', Same H H' → H d = none → H' d = some (.xd [(("at" : Str), .int n)]) → E (.ref C) (some d) H'
theorem small {n : Nat} (h : n ≤ 100000) : n ≤ sizeLine := by rw [sizeLine_eq]; omega
theorem smallLt {n : Nat} (h : n ≤ 100000) : n < sizeLine := by rw [sizeLine_eq]; omega
theorem cutS_drop (z : Str) (k : Nat) : cutS z (some (k : Int)) none = sufS z k := by
  unfold cutS sufS
  rw [HT.sIx_nat, HT.sIx_none]
  congr 2
  have hl : z.length = z.cps.toList.length := rfl
  rw [List.take_of_length_le]
  · rcases Nat.le_total k z.length with h | h
    · rw [Nat.min_eq_left h]
    · rw [Nat.min_eq_right h, List.drop_of_length_le (by rw [hl] at h ⊢; omega), List.drop_of_length_le (by rw [hl] at h; omega)]
  · rw [List.length_drop, ← hl]; omega
section
variable {P : Program} {w : World} {K : PySem.W.Frag} {mg : Str → Option Value} {base : Heap} {ec : Nat → Addr}
abbrev s_HouseError_init : Stmt := inClass (topS 1) 0
abbrev N_HouseError_init : List Str := ["self", "at"]
theorem sc_HouseError_init : FnScope ["self", "at"] ["self", "at"] (defScope s_HouseError_init) := ⟨rfl, rfl, rfl, by decide +kernel, rfl, by decide +kernel, by decide +kernel⟩
theorem ok_HouseError_init {f : Addr} {fd : FuncData} (F : Fun K "__init__" "HouseError.__init__" s_HouseError_init f fd) (T : Txt mg) (vV : PySem.W.findCls K (.type "ValueError") (.type "type") "__init__" = some (.val (.builtin "ValueError.__init__"))) :
    FnOk P w K mg base CX0 1 f fd ["self", "at"] (spHE K) := by
  refine F.ok sc_HouseError_init (fun vs H Q E h => ?_) (fun cdv A outer s H vs Q E hr h => ?_)
  · obtain ⟨a, C, n, rfl, _⟩ := h
    rfl
  · obtain ⟨a, C, n, rfl, o, hat, ha, k⟩ := h
    refine ⟨_, pss_cons (ps_expr (pe_veinit (by rfl) T.ValueError vV (pa_cons (pv 0) (pa_cons pe_str pa_nil))))
      (pss_one (ps_ost (pv 0) (pv 1))), ?_⟩
    refine ⟨_, rfl, a, C, _, rfl, (by show 1 ≤ 1000; decide), o, ha, ?_⟩
    refine ⟨_, rfl, _, rfl, a, C, rfl, o, hat, .inl ⟨ha, fun dx hd hne => ?_⟩⟩
    exact k dx hd hne

abbrev s_text_of : Stmt := topS 13
abbrev N_text_of : List Str := ["house", "number", "other", "text"]
theorem sc_text_of : FnScope ["house", "number", "other", "text"] ["house", "number"] (defScope s_text_of) := ⟨rfl, rfl, rfl, by decide +kernel, rfl, by decide +kernel, by decide +kernel⟩
def sp_text_of (ec : Nat → Addr) : Sp := fun vs H Q E => ∃ (a : Addr) (n : Int) (ts : List (Int × Str)), vs = [.ref a, .int n] ∧ LT H a (ts.map hrow) ∧ (∀ z, txt ts n = some z → Q (.str z) H) ∧ (txt ts n = none → Err H E n (ec 4))
theorem ok_text_of {f : Addr} {fd : FuncData} (F : Fun K "text_of" "text_of" s_text_of f fd) (h_NoText : HasE P w K mg base "NoText" (ec 4)) : FnOk P w K mg base (L2N.CX P w) 3 f fd ["house", "number"] (sp_text_of ec) := by
  refine okXN F sc_text_of (fun vs H Q E h => ?_) (fun cdv A outer s H vs Q E hr h => ?_)
  · obtain ⟨a, n, ts, rfl, _⟩ := h
    rfl
  · obtain ⟨a, n, ts, rfl, hL, hQ, hE⟩ := h
    refine ⟨_, (pss_cons (ps_for (passes_of rfl) rfl (pi_list (pv 0)) (pg_tup rfl (pgs_cons (pg_name (i := 2) sc_text_of.nd rfl (Or.inl rfl)) (pgs_cons (pg_name (i := 3) sc_text_of.nd rfl (Or.inl rfl)) pgs_nil)))
      (pss_one (ps_if (pt_cmpR op_eq (pv 2) (pv 1) (nomark _))
      (pss_one (ps_ret (pv 3)))
      pss_nil)))
      (pss_one (ps_raiseE (L2N.takes_of rfl rfl rfl rfl) h_NoText (hr.mono (by decide)) (pv 1)))), ?_⟩
    refine ⟨_, rfl, a, rfl, ⟨_, SqL.of hL.choose_spec.1⟩, for_LT (K := K) hL (fun i σ H' => H' = H ∧ txt (ts.take i) n = none ∧ ∃ u v : Option V, σ = [some (.ref a), some (.int n), u, v]) ⟨rfl, rfl, none, none, rfl⟩ (fun i σ H' _ ⟨e, _⟩ => by rw [e]; exact Same.refl _) ?_ ?_⟩
    · rintro i r p σ H' hi hp ⟨rfl, ht, u, v, rfl⟩
      rw [List.getElem?_map] at hi
      obtain ⟨⟨m, z⟩, ht1, rfl⟩ := Option.map_eq_some_iff.mp hi
      have step := txt_take ht1 ht
      refine g2 hp ⟨_, rfl, _, rfl, rfl, _, rfl, ?_⟩
      by_cases e : m = n
      · subst e
        rw [if_pos rfl] at step
        refine if_pos_of (by simp) ⟨_, rfl, hQ z (txt_of_take step)⟩
      · rw [if_neg e] at step
        refine if_neg_of (by simp [e]) ⟨rfl, step, _, _, rfl⟩
    · rintro σ H' ⟨rfl, ht, u, v, rfl⟩
      rw [List.length_map, List.take_length] at ht
      exact ⟨_, rfl, n, rfl, fun d H1 s1 h1 h2 => hE ht d H1 s1 h1 h2⟩

abbrev s_is_text : Stmt := topS 12
abbrev N_is_text : List Str := ["text", "char"]
theorem sc_is_text : FnScope ["text", "char"] ["text"] (defScope s_is_text) := ⟨rfl, rfl, rfl, by decide +kernel, rfl, by decide +kernel, by decide +kernel⟩
def sp_is_text : Sp := fun vs H Q _ => ∃ z : Str, vs = [.str z] ∧ Ltr z ∧ strLen z ≤ 1000 ∧ ∀ H', Same H H' → Q (.bl (decide (strLen z ≤ 40))) H'
theorem ok_is_text {f : Addr} {fd : FuncData} (F : Fun K "is_text" "is_text" s_is_text f fd) (T : Txt mg) : FnOk P w K mg base CX0 1 f fd ["text"] sp_is_text := by
  refine F.ok sc_is_text (fun vs H Q E h => ?_) (fun cdv A outer s H vs Q E hr h => ?_)
  · obtain ⟨z, rfl, _⟩ := h
    rfl
  · obtain ⟨z, rfl, hz, hl, hQ⟩ := h
    refine ⟨_, (pss_one (ps_ret (pe_and (pe_cmpR op_le (pe_callB call_len_str (by rfl) T.len (by decide +kernel) (pa_cons (pv 0) pa_nil)) (pe_globI T.MOST_LETTERS) (nomark _)) (pe_one (pe_callB (allK K) (by rfl) T.all (by decide +kernel) (pa_cons (pe_lc (own := [("char", 1)]) (g := (gName 1)) (tt := tYes) rfl sc_is_text.nd (pi_str (pv 0)) (blkOk_by (own := [("char", 1)]) (N := N_is_text) (sc := defScope s_is_text) (by decide +kernel)) (fun _ _ _ _ _ => (pg_name (i := 1) sc_is_text.nd rfl (Or.inl rfl))) (fun _ _ _ _ _ => pts_nil) (fun _ _ _ _ _ => (pe_and (pe_chain op_le_str op_le_str pe_str (pv 1) pe_str) (pe_one (pe_cmpR op_ne (pe_callB call_ord (by rfl) T.ord (by decide +kernel) (pa_cons (pv 1) pa_nil)) pe_int (nomark _)))))) pa_nil)))))), ?_⟩
    refine ⟨_, rfl, z, rfl, small (by unfold strLen at hl; show z.cps.size ≤ _; simpa using Nat.le_trans hl (by decide)), _, _, rfl, rfl, _, rfl, ?_⟩
    by_cases h40 : strLen z ≤ 40
    · have e40 : decide ((z.length : Int) ≤ 40) = true := decide_eq_true (by have : z.length = strLen z := rfl; omega)
      rw [e40]
      refine ⟨_, rfl, z, rfl, fun D hD => ?_⟩
      refine lc_str (fun i H' => Same H H' ∧ H' D = some (.lst (List.replicate i (.bl true)))) ⟨same_upd hD, upd_same⟩ ?_ ?_
      · rintro i c H' hc ⟨s1, hd⟩
        have hc3 := hz c (List.mem_of_getElem? hc)
        have hi : i < strLen z := (List.getElem?_eq_some_iff.mp hc).1
        refine ⟨rfl, ?_⟩
        refine ⟨_, rfl, _, _, rfl, rfl, _, rfl, ?_⟩
        have b1 : (!decide (({ cps := #[c] } : Str).cps.toList < (Str.ofString " ").cps.toList)) = true := by rcases hc3 with rfl | rfl | rfl <;> decide +kernel
        have b2 : (!decide ((Str.ofString "~").cps.toList < ({ cps := #[c] } : Str).cps.toList)) = true := by rcases hc3 with rfl | rfl | rfl <;> decide +kernel
        have b3 : (!decide (V.int ((#[c].getD 0 0 : Nat) : Int) = V.int 37)) = true := by rcases hc3 with rfl | rfl | rfl <;> decide +kernel
        rw [b1]
        refine ⟨_, _, rfl, rfl, ?_⟩
        rw [b2]
        refine ⟨_, rfl, ?_⟩
        refine ⟨_, rfl, _, rfl, rfl, rfl, ?_⟩
        refine ⟨_, hd, smallLt (by rw [List.length_replicate]; unfold strLen at hi hl; omega), same_wr s1 hD, ?_⟩
        rw [upd_same, b3, List.replicate_succ']
      · rintro H' ⟨s1, hd⟩
        refine ⟨D, List.replicate z.cps.toList.length true, rfl, SqL.of (by rw [hd, List.map_replicate]), ?_⟩
        have : (List.replicate z.cps.toList.length true).all id = true := by simp
        rw [this]
        have := hQ H' s1
        rw [decide_eq_true h40] at this
        exact this
    · have e40 : decide ((z.length : Int) ≤ 40) = false := decide_eq_false (by have : z.length = strLen z := rfl; omega)
      rw [e40]
      have := hQ H (Same.refl H)
      rw [decide_eq_false h40] at this
      exact this
end
end Sfx
end
section
set_option Elab.async false
set_option linter.all false
set_option maxRecDepth 100000
set_option maxHeartbeats 4000000
namespace Sfx
open PySem PySem.Spec L2
theorem take_snoc {α : Type} {l : List α} {i : Nat} {x : α} (h : l[i]? = some x) : l.take (i + 1) = l.take i ++ [x] := by
  rw [List.take_add_one, h]; rfl
theorem inV_nums {n : Int} : ∀ ts : List (Int × Str), inV (.int n) (ts.map fun t => V.int t.1) = (txt ts n).isSome
  | [] => rfl
  | (m, z) :: r => by
    have ih := inV_nums (n := n) r
    unfold inV at ih ⊢
    rw [List.map_cons, List.any_cons, ih]
    have e1 : txt ((m, z) :: r) n = if m = n then some z else txt r n := rfl
    rw [e1]
    by_cases e : m = n
    · rw [if_pos e]; simp [eqV, e]
    · rw [if_neg e]
      have : eqV (.int m) (.int n) = false := by simp [eqV, e]
      rw [this, Bool.false_or]
theorem map_get {α β : Type} {f : α → β} {l : List α} {i : Nat} {y : β} (h : (l.map f)[i]? = some y) : ∃ x, l[i]? = some x ∧ y = f x := by
  rw [List.getElem?_map] at h
  obtain ⟨x, h1, h2⟩ := Option.map_eq_some_iff.mp h
  exact ⟨x, h1, h2.symm⟩
theorem LT.ref {H : Hp} {a : Addr} {rows : List (List V)} (h : LT H a rows) : ∃ xs, H a = some (.lst xs) ∧ xs.length = rows.length := by
  obtain ⟨ps, h1, h2⟩ := h
  exact ⟨_, h1, by rw [List.length_map]; exact paired_len h2⟩
section
variable {P : Program} {w : World} {K : PySem.W.Frag} {mg : Str → Option Value} {base : Heap} {ec : Nat → Addr}
abbrev s_has_number : Stmt := topS 14
abbrev N_has_number : List Str := ["house", "number", "other", "_"]
theorem sc_has_number : FnScope ["house", "number", "other", "_"] ["house", "number"] (defScope s_has_number) := ⟨rfl, rfl, rfl, by decide +kernel, rfl, by decide +kernel, by decide +kernel⟩
def sp_has_number : Sp := fun vs H Q _ => ∃ (a : Addr) (n : Int) (ts : List (Int × Str)), vs = [.ref a, .int n] ∧ LT H a (ts.map hrow) ∧ ts.length ≤ 1000 ∧ ∀ H', Same H H' → Q (.bl (txt ts n).isSome) H'
theorem ok_has_number {f : Addr} {fd : FuncData} (F : Fun K "has_number" "has_number" s_has_number f fd) (T : Txt mg) : FnOk P w K mg base CX0 1 f fd ["house", "number"] sp_has_number := by
  refine F.ok sc_has_number (fun vs H Q E h => ?_) (fun cdv A outer s H vs Q E hr h => ?_)
  · obtain ⟨a, n, ts, rfl, _⟩ := h
    rfl
  · obtain ⟨a, n, ts, rfl, hL, hl, hQ⟩ := h
    refine ⟨_, (pss_one (ps_ret (pe_cmpR (inSeq K) (pv 1) (pe_lc (own := [("other", 2), ("_", 3)]) (g := (gTup K 2 (gCons (gName 2) (gCons (gName 3) gNil)))) (tt := tYes) rfl sc_has_number.nd (pi_list (pv 0)) (blkOk_by (own := [("other", 2), ("_", 3)]) (N := N_has_number) (sc := defScope s_has_number) (by decide +kernel)) (fun _ _ _ _ _ => (pg_tup rfl (pgs_cons (pg_name (i := 2) sc_has_number.nd rfl (Or.inl rfl)) (pgs_cons (pg_name (i := 3) sc_has_number.nd rfl (Or.inl rfl)) pgs_nil)))) (fun _ _ _ _ _ => pts_nil) (fun _ _ _ _ _ => (pv 2))) (by rfl)))), ?_⟩
    obtain ⟨xs, hx, _⟩ := hL.ref
    refine ⟨_, rfl, _, rfl, a, rfl, ⟨_, SqL.of hx⟩, fun D hD => ?_⟩
    refine lc_LT hL (fun i H' => Same H H' ∧ H' D = some (.lst ((ts.take i).map fun t => V.int t.1))) ⟨same_upd hD, upd_same⟩ (fun i H' _ h => h.1) ?_ ?_
    · rintro i r p H' hi hp ⟨s1, hd⟩
      obtain ⟨⟨m, z⟩, ht, rfl⟩ := map_get hi
      refine g2 hp ⟨rfl, _, rfl, _, hd, smallLt ?_, same_wr s1 hD, ?_⟩
      · rw [List.length_map, List.length_take]; omega
      · rw [upd_same, take_snoc ht, List.map_append]; rfl
    · rintro H' ⟨s1, hd⟩
      rw [List.length_map, List.take_length] at hd
      refine ⟨D, _, rfl, .inl (SqL.of hd), rfl, ?_, ?_⟩
      · rw [List.all_map]; simp [flatV, Function.comp_def]
      · show Q (.bl (inV _ _)) H'
        rw [inV_nums]
        exact hQ H' s1

abbrev s_with_text : Stmt := topS 15
abbrev N_with_text : List Str := ["house", "number", "text"]
theorem sc_with_text : FnScope ["house", "number", "text"] ["house", "number", "text"] (defScope s_with_text) := ⟨rfl, rfl, rfl, by decide +kernel, rfl, by decide +kernel, by decide +kernel⟩
def sp_with_text (ec : Nat → Addr) : Sp := fun vs H Q E => ∃ (a : Addr) (n : Int) (z : Str) (ts : List (Int × Str)), vs = [.ref a, .int n, .str z] ∧ LT H a (ts.map hrow) ∧ Asc ts ∧ ts.length ≤ 8 ∧ Ltr z ∧ strLen z ≤ 1000 ∧
  (∀ k, putKind ts n z = some k → Err H E n (ec k)) ∧ (putKind ts n z = none → ∀ p H', Same H H' → H p = none → LT H' p ((insN ts n z).map hrow) → Q (.ref p) H')
theorem Err.same {H H' : Hp} {E : XK} {n : Int} {C : Addr} (h : Err H E n C) (s : Same H H') : Err H' E n C := fun d H2 s2 hd e => h d H2 (s.trans s2) (s.free hd) e
theorem ok_with_text {f : Addr} {fd : FuncData} (F : Fun K "with_text" "with_text" s_with_text f fd) (T : Txt mg) (h_has_number : HasF P w K mg base CX0 "has_number" 1 ["house", "number"] sp_has_number)
    (h_is_text : HasF P w K mg base CX0 "is_text" 1 ["text"] sp_is_text) (h_OutOfRange : HasE P w K mg base "OutOfRange" (ec 0)) (h_TakenNumber : HasE P w K mg base "TakenNumber" (ec 1)) (h_BadText : HasE P w K mg base "BadText" (ec 2)) (h_TooMany : HasE P w K mg base "TooMany" (ec 3)) :
    FnOk P w K mg base (L2N.CX P w) 3 f fd ["house", "number", "text"] (sp_with_text ec) := by
  refine okXN F sc_with_text (fun vs H Q E h => ?_) (fun cdv A outer s H vs Q E hr h => ?_)
  · obtain ⟨a, n, z, ts, rfl, _⟩ := h
    rfl
  · obtain ⟨a, n, z, ts, rfl, hL, hA, h8, hz, hzl, hE, hQ⟩ := h
    refine ⟨_, (pss_cons (ps_if (pt_not (pt_chain op_le op_le pe_int (pv 1) (pe_globI T.MOST_NUMBER)))
      (pss_one (ps_raiseE (L2N.takes_of rfl rfl rfl rfl) h_OutOfRange (hr.mono (by decide)) (pv 1)))
      pss_nil)
      (pss_cons (ps_if (pt_val (pe_callG h_has_number (hr.mono (by decide)) p0 (pa_cons (pv 0) (pa_cons (pv 1) pa_nil))))
      (pss_one (ps_raiseE (L2N.takes_of rfl rfl rfl rfl) h_TakenNumber (hr.mono (by decide)) (pv 1)))
      pss_nil)
      (pss_cons (ps_if (pt_not (pt_val (pe_callG h_is_text (hr.mono (by decide)) p0 (pa_cons (pv 2) pa_nil))))
      (pss_one (ps_raiseE (L2N.takes_of rfl rfl rfl rfl) h_BadText (hr.mono (by decide)) (pv 1)))
      pss_nil)
      (pss_cons (ps_if (pt_cmpR op_eq (pe_callB (lenQ K) (by rfl) T.len (by decide +kernel) (pa_cons (pv 0) pa_nil)) (pe_globI T.MOST_TEXTS) (nomark _))
      (pss_one (ps_raiseE (L2N.takes_of rfl rfl rfl rfl) h_TooMany (hr.mono (by decide)) (pv 1)))
      pss_nil)
      (pss_one (ps_ret (pe_callB cr_sortedM (by rfl) T.sorted (by decide +kernel) (pa_cons (pe_lst (StX.pa_star (pv 0) (pa_cons (pe_tup (pa_cons (pv 1) (pa_cons (pv 2) pa_nil))) pa_nil))) pa_nil)))))))), ?_⟩
    obtain ⟨xs, hx, hxl⟩ := hL.ref
    -- not 0 <= number <= 99
    refine ⟨_, rfl, _, _, rfl, rfl, _, rfl, ?_⟩
    have kd : ∀ k, (putKind ts n z = some k) → ∀ {H1 : Hp}, Same H H1 → ∀ d H', Same H1 H' → H1 d = none → H' d = some (.xd [(("at" : Str), .int n)]) → E (.ref (ec k)) (some d) H' := fun k hk H1 s1 d H' s2 hd e => hE k hk d H' (s1.trans s2) (s1.free hd) e
    have off : ¬ (0 ≤ n ∧ n ≤ 99) → putKind ts n z = some 0 := fun h => if_pos h
    by_cases h0 : 0 ≤ n
    · rw [decide_eq_true h0]
      refine ⟨_, _, rfl, rfl, _, rfl, ?_⟩
      by_cases h99 : n ≤ 99
      · have on : putKind ts n z = if (txt ts n).isSome = true then some 1 else if 40 < strLen z then some 2 else if ts.length = 8 then some 3 else none := if_neg (by omega)
        refine if_neg_of (by simp [h99]) ?_
        refine ⟨_, rfl, _, rfl, a, n, ts, rfl, hL, by omega, fun H1 s1 => ⟨_, rfl, ?_⟩⟩
        by_cases hn : (txt ts n).isSome = true
        · exact if_pos_of hn ⟨_, rfl, n, rfl, kd 1 (by rw [on, if_pos hn]) s1⟩
        · refine if_neg_of hn ?_
          rw [if_neg hn] at on
          refine ⟨_, rfl, z, rfl, hz, hzl, fun H2 s2 => ⟨_, rfl, ?_⟩⟩
          have s12 := s1.trans s2
          by_cases h40 : strLen z ≤ 40
          · rw [if_neg (by omega)] at on
            refine if_neg_of (by simp [h40]) ?_
            refine ⟨_, rfl, a, xs, rfl, .inl (SqL.of (s12 _ _ hx)), rfl, _, rfl, ?_⟩
            rw [List.length_map] at hxl
            by_cases h8' : ts.length = 8
            · exact if_pos_of (by rw [hxl, h8']; decide) ⟨_, rfl, n, rfl, kd 3 (by rw [on, if_pos h8']) s12⟩
            · rw [if_neg h8'] at on
              refine if_neg_of (by rw [hxl]; simp; omega) ?_
              have hnn : ∀ t ∈ ts, t.1 ≠ n := txt_none.mp (by cases q : txt ts n with
                | none => rfl
                | some y => rw [q] at hn; exact absurd rfl hn)
              obtain ⟨ps, hps, hpp⟩ := hL
              have hpl : ps.length ≤ 8 := by have := paired_len hpp; rw [List.length_map] at this; omega
              refine ⟨_, rfl, a, _, rfl, .inr (SqL.of (s12 _ _ hps)), ?_⟩
              refine ⟨_, rfl, _, rfl, (by show 2 ≤ sizeLine; decide), fun t ht => ?_⟩
              refine ⟨small (by rw [List.length_append, List.length_map]; show ps.length + 1 ≤ _; omega), fun l hl => ?_⟩
              have s3 : Same H (upd (upd H2 t (.tup [.int n, .str z])) l (.lst (ps.map V.ref ++ [V.ref t]))) := same_to (same_to s12 ht) hl
              have hlt : l ≠ t := fun e => by rw [e, upd_same] at hl; cases hl
              have pp : Paired (fun p r => upd (upd H2 t (.tup [.int n, .str z])) l (.lst (ps.map V.ref ++ [V.ref t])) p = some (.tup r)) (ps ++ [t]) ((ts ++ [(n, z)]).map hrow) := by
                rw [List.map_append]
                refine paired_app (paired_imp (fun _ _ e => s3 _ _ e) hpp) (.cons ?_ .nil)
                rw [upd_ne (Ne.symm hlt), upd_same]
                rfl
              refine ⟨l, (ts ++ [(n, z)]).map hrow, [false, true], rfl, ⟨ps ++ [t], by rw [upd_same, List.map_append]; rfl, pp⟩, by decide, shp_hrow _, fun qs rows' p hp hq hs hfree => ?_⟩
              have er := sorted_insN hA hnn hp hs
              refine hQ on p _ (same_to s3 hfree) (s3.free hfree) ⟨qs, upd_same, ?_⟩
              rw [← er]
              exact paired_imp (fun x r e => same_upd hfree _ _ e) hq
          · exact if_pos_of (by simp [h40]) ⟨_, rfl, n, rfl, kd 2 (by rw [on, if_pos (by omega)]) s12⟩
      · exact if_pos_of (by simp [h99]) ⟨_, rfl, n, rfl, kd 0 (off (by omega)) (Same.refl H)⟩
    · rw [decide_eq_false h0]
      exact ⟨_, rfl, ⟨_, rfl, n, rfl, kd 0 (off (by omega)) (Same.refl H)⟩⟩

abbrev s_without_text : Stmt := topS 16
abbrev N_without_text : List Str := ["house", "number", "pair"]
theorem sc_without_text : FnScope ["house", "number", "pair"] ["house", "number"] (defScope s_without_text) := ⟨rfl, rfl, rfl, by decide +kernel, rfl, by decide +kernel, by decide +kernel⟩
def sp_without_text (ec : Nat → Addr) : Sp := fun vs H Q E => ∃ (a : Addr) (n : Int) (ts : List (Int × Str)), vs = [.ref a, .int n] ∧ LT H a (ts.map hrow) ∧ ts.length ≤ 1000 ∧ (txt ts n = none → Err H E n (ec 4)) ∧
  ((txt ts n).isSome = true → ∀ p H', Same H H' → H p = none → LT H' p ((ts.filter fun t => decide (t.1 ≠ n)).map hrow) → Q (.ref p) H')
theorem LT.nil {H : Hp} {D : Addr} : LT (upd H D (.lst [])) D [] := ⟨[], upd_same, .nil⟩
theorem LT.app {H : Hp} {D p : Addr} {rows : List (List V)} {r : List V} (h : LT H D rows) (hp : H p = some (.tup r)) : ∃ acc, H D = some (.lst acc) ∧ acc.length = rows.length ∧ LT (upd H D (.lst (acc ++ [V.ref p]))) D (rows ++ [r]) := by
  obtain ⟨ps, h1, h2⟩ := h
  have hne : ∀ q x, H q = some (.tup x) → upd H D (.lst (ps.map V.ref ++ [V.ref p])) q = some (.tup x) := fun q x e => by
    rw [upd_ne (ne_of e h1 (by intro z; cases z))]; exact e
  refine ⟨ps.map V.ref, h1, by rw [List.length_map]; exact paired_len h2, ps ++ [p], by rw [upd_same, List.map_append]; rfl, ?_⟩
  exact paired_app (paired_imp (fun _ _ e => hne _ _ e) h2) (.cons (hne _ _ hp) .nil)
theorem ok_without_text {f : Addr} {fd : FuncData} (F : Fun K "without_text" "without_text" s_without_text f fd) (h_text_of : HasF P w K mg base (L2N.CX P w) "text_of" 3 ["house", "number"] (sp_text_of ec)) :
    FnOk P w K mg base (L2N.CX P w) 4 f fd ["house", "number"] (sp_without_text ec) := by
  refine okXN F sc_without_text (fun vs H Q E h => ?_) (fun cdv A outer s H vs Q E hr h => ?_)
  · obtain ⟨a, n, ts, rfl, _⟩ := h
    rfl
  · obtain ⟨a, n, ts, rfl, hL, hl, hE, hQ⟩ := h
    refine ⟨_, (pss_cons (ps_expr (pe_callG h_text_of (hr.mono (by decide)) (fun σ => L2N.passAt (L2N.takes_of rfl rfl rfl rfl) σ) (pa_cons (pv 0) (pa_cons (pv 1) pa_nil))))
      (pss_one (ps_ret (pe_lc (own := [("pair", 2)]) (g := (gName 2)) rfl sc_without_text.nd (pi_list (pv 0)) (blkOk_by (own := [("pair", 2)]) (N := N_without_text) (sc := defScope s_without_text) (by decide +kernel)) (fun _ _ _ _ _ => (pg_name (i := 2) sc_without_text.nd rfl (Or.inl rfl))) (fun _ _ _ _ _ => (pts_one (pt_cmpR op_ne (pe_ix (ixT K) (pv 2) pe_int (fun _ _ => rfl)) (pv 1) (nomark _)))) (fun _ _ _ _ _ => (pv 2)))))), ?_⟩
    refine ⟨_, rfl, _, rfl, a, n, ts, rfl, hL, fun z hz => ?_, fun h => hE h⟩
    obtain ⟨xs, hx, _⟩ := hL.ref
    refine ⟨_, rfl, a, rfl, ⟨_, SqL.of hx⟩, fun D hD => ?_⟩
    refine lc_LT hL (fun i H' => Same H H' ∧ LT H' D (((ts.take i).filter fun t => decide (t.1 ≠ n)).map hrow)) ⟨same_upd hD, LT.nil⟩ (fun i H' _ h => h.1) ?_ ?_
    · rintro i r p H' hi hp ⟨s1, hd⟩
      obtain ⟨⟨m, y⟩, ht, rfl⟩ := map_get hi
      refine ⟨rfl, _, rfl, p, _, 0, .int m, rfl, rfl, SqT.of hp, rfl, _, rfl, rfl, _, rfl, ?_⟩
      by_cases e : m = n
      · refine if_neg_of (by simp [e]) ⟨s1, ?_⟩
        rw [take_snoc ht, List.filter_append]
        simpa [e] using hd
      · refine if_pos_of (by simp [e]) ?_
        obtain ⟨acc, a1, a2, a3⟩ := hd.app hp
        refine ⟨_, rfl, acc, a1, smallLt ?_, same_wr s1 hD, ?_⟩
        · rw [a2, List.length_map]
          have := List.length_filter_le (fun t : Int × Str => decide (t.1 ≠ n)) (ts.take i)
          have h2 : (ts.take i).length ≤ ts.length := by rw [List.length_take]; omega
          omega
        · rw [take_snoc ht, List.filter_append]
          simpa [e] using a3
    · rintro H' ⟨s1, hd⟩
      rw [List.length_map, List.take_length] at hd
      exact hQ (by rw [hz]; rfl) D H' s1 hD hd

abbrev s_letters_of : Stmt := topS 18
abbrev N_letters_of : List Str := ["house", "end"]
theorem sc_letters_of : FnScope ["house", "end"] ["house", "end"] (defScope s_letters_of) := ⟨rfl, rfl, rfl, by decide +kernel, rfl, by decide +kernel, by decide +kernel⟩
def sp_letters_of : Sp := fun vs H Q _ => ∃ (a e : Addr) (ts : List (Int × Str)) (x : Int × Nat) (z : Str), vs = [.ref a, .ref e] ∧ LT H a (ts.map hrow) ∧ H e = some (.tup (erow x)) ∧ txt ts x.1 = some z ∧ strLen z ≤ 1000 ∧ Q (.str (sufS z x.2)) H
theorem atE0 (x : Int × Nat) : atI (erow x) 0 = some (.int x.1) := rfl
theorem atE1 (x : Int × Nat) : atI (erow x) 1 = some (.int (x.2 : Nat)) := rfl
theorem ok_letters_of {f : Addr} {fd : FuncData} (F : Fun K "letters_of" "letters_of" s_letters_of f fd) (h_text_of : HasF P w K mg base (L2N.CX P w) "text_of" 3 ["house", "number"] (sp_text_of ec)) :
    FnOk P w K mg base CX0 4 f fd ["house", "end"] sp_letters_of := by
  refine F.ok sc_letters_of (fun vs H Q E h => ?_) (fun cdv A outer s H vs Q E hr h => ?_)
  · obtain ⟨a, e, ts, x, z, rfl, _⟩ := h
    rfl
  · obtain ⟨a, e, ts, x, z, rfl, hL, he, hz, hl, hQ⟩ := h
    refine ⟨_, (pss_one (ps_ret (pe_slice sl_str (pe_callG h_text_of (hr.mono (by decide)) pL (pa_cons (pv 0) (pa_cons (pe_ix (ixT K) (pv 1) pe_int (fun _ _ => rfl)) pa_nil))) (po_some (pe_ix (ixT K) (pv 1) pe_int (fun _ _ => rfl))) po_none))), ?_⟩
    refine ⟨_, rfl, _, rfl, e, _, 0, _, rfl, rfl, SqT.of he, atE0 x, a, x.1, ts, rfl, hL, fun y hy => ?_, fun h => by rw [hz] at h; cases h⟩
    rw [hz] at hy
    cases hy
    refine ⟨_, rfl, e, _, 1, _, rfl, rfl, SqT.of he, atE1 x, _, rfl, z, rfl, small (by show strLen z ≤ _; omega), ?_⟩
    rw [cutS_drop]
    exact hQ

abbrev s_is_end : Stmt := topS 19
abbrev N_is_end : List Str := ["house", "end"]
theorem sc_is_end : FnScope ["house", "end"] ["house", "end"] (defScope s_is_end) := ⟨rfl, rfl, rfl, by decide +kernel, rfl, by decide +kernel, by decide +kernel⟩
def sp_is_end : Sp := fun vs H Q _ => ∃ (a e : Addr) (ts : List (Int × Str)) (x : Int × Nat) (z : Str), vs = [.ref a, .ref e] ∧ LT H a (ts.map hrow) ∧ ts.length ≤ 1000 ∧ H e = some (.tup (erow x)) ∧ txt ts x.1 = some z ∧ strLen z ≤ 1000 ∧ x.2 ≤ strLen z ∧ ∀ H', Same H H' → Q (.bl true) H'
theorem ok_is_end {f : Addr} {fd : FuncData} (F : Fun K "is_end" "is_end" s_is_end f fd) (T : Txt mg) (h_has_number : HasF P w K mg base CX0 "has_number" 1 ["house", "number"] sp_has_number)
    (h_text_of : HasF P w K mg base (L2N.CX P w) "text_of" 3 ["house", "number"] (sp_text_of ec)) : FnOk P w K mg base CX0 4 f fd ["house", "end"] sp_is_end := by
  refine F.ok sc_is_end (fun vs H Q E h => ?_) (fun cdv A outer s H vs Q E hr h => ?_)
  · obtain ⟨a, e, ts, x, z, rfl, _⟩ := h
    rfl
  · obtain ⟨a, e, ts, x, z, rfl, hL, hlen, he, hz, hl, hx, hQ⟩ := h
    refine ⟨_, (pss_one (ps_ret (pe_and (pe_callG h_has_number (hr.mono (by decide)) p0 (pa_cons (pv 0) (pa_cons (pe_ix (ixT K) (pv 1) pe_int (fun _ _ => rfl)) pa_nil))) (pe_one (pe_chain op_le op_le pe_int (pe_ix (ixT K) (pv 1) pe_int (fun _ _ => rfl)) (pe_callB call_len_str (by rfl) T.len (by decide +kernel) (pa_cons (pe_callG h_text_of (hr.mono (by decide)) pL (pa_cons (pv 0) (pa_cons (pe_ix (ixT K) (pv 1) pe_int (fun _ _ => rfl)) pa_nil))) pa_nil))))))), ?_⟩
    refine ⟨_, rfl, _, rfl, e, _, 0, _, rfl, rfl, SqT.of he, atE0 x, a, x.1, ts, rfl, hL, hlen, fun H1 s1 => ⟨_, rfl, ?_⟩⟩
    rw [hz]
    refine ⟨_, rfl, e, _, 1, _, rfl, rfl, SqT.of (s1 _ _ he), atE1 x, _, _, rfl, rfl, _, rfl, ?_⟩
    rw [decide_eq_true (show (0 : Int) ≤ (x.2 : Nat) by omega)]
    refine ⟨_, rfl, _, rfl, e, _, 0, _, rfl, rfl, SqT.of (s1 _ _ he), atE0 x, a, x.1, ts, rfl, hL.same s1, fun y hy => ?_, fun h => by rw [hz] at h; cases h⟩
    rw [hz] at hy
    cases hy
    refine ⟨z, rfl, small (by show strLen z ≤ _; omega), _, _, rfl, rfl, ?_⟩
    have : decide (((x.2 : Nat) : Int) ≤ ((z.length : Nat) : Int)) = true := decide_eq_true (by have : z.length = strLen z := rfl; omega)
    show Q (.bl (decide (((x.2 : Nat) : Int) ≤ ((z.length : Nat) : Int)))) H1
    rw [this]
    exact hQ H1 s1

abbrev s_alike : Stmt := topS 20
abbrev N_alike : List Str := ["one", "two", "size"]
theorem sc_alike : FnScope ["one", "two", "size"] ["one", "two"] (defScope s_alike) := ⟨rfl, rfl, rfl, by decide +kernel, rfl, by decide +kernel, by decide +kernel⟩
def sp_alike : Sp := fun vs H Q _ => ∃ (x y : Str), vs = [.str x, .str y] ∧ strLen x ≤ 1000 ∧ strLen y ≤ 1000 ∧ Q (.int (lcp x.cps.toList y.cps.toList : Nat)) H
theorem ok_alike {f : Addr} {fd : FuncData} (F : Fun K "alike" "alike" s_alike f fd) (T : Txt mg) : FnOk P w K mg base CX0 1 f fd ["one", "two"] sp_alike := by
  refine F.ok sc_alike (fun vs H Q E h => ?_) (fun cdv A outer s H vs Q E hr h => ?_)
  · obtain ⟨x, y, rfl, _⟩ := h
    rfl
  · obtain ⟨x, y, rfl, hx, hy, hQ⟩ := h
    refine ⟨_, (pss_cons (ps_set (i := 2) sc_alike.nd rfl (Or.inl rfl) pe_int)
      (pss_cons (ps_while PassesOwn.never (PW.pt (pw_and (pt_cmpR op_lt (pv 2) (pe_callB (call_min2 rfl) (by rfl) T.min (by decide +kernel) (pa_cons (pe_callB call_len_str (by rfl) T.len (by decide +kernel) (pa_cons (pv 0) pa_nil)) (pa_cons (pe_callB call_len_str (by rfl) T.len (by decide +kernel) (pa_cons (pv 1) pa_nil)) pa_nil))) (nomark _)) (pw_and1 (pt_cmpR op_eq (pe_ix ix_str (pv 0) (pv 2) (fun _ _ => rfl)) (pe_ix ix_str (pv 1) (pv 2) (fun _ _ => rfl)) (nomark _)))))
      (pss_one (ps_aug (i := 2) sc_alike.nd rfl (Or.inl rfl) pe_int ip_add)))
      (pss_one (ps_ret (pv 2))))), ?_⟩
    have sx : x.length ≤ sizeLine := small (by show strLen x ≤ _; omega)
    have sy : y.length ≤ sizeLine := small (by show strLen y ≤ _; omega)
    have lx : x.length = x.cps.toList.length := rfl
    have ly : y.length = y.cps.toList.length := rfl
    refine ⟨fun m σ H' => H' = H ∧ ∃ k : Nat, σ = [some (.str x), some (.str y), some (.int (k : Nat))] ∧ m + k = x.cps.toList.length ∧ k ≤ lcp x.cps.toList y.cps.toList, ⟨_, rfl, 0, rfl, rfl, Nat.zero_le _⟩, ?_⟩
    rintro m σ H' ⟨rfl, k, rfl, hm, hk⟩
    have hk1 := lcp_le x.cps.toList y.cps.toList
    refine ⟨_, rfl, _, rfl, x, rfl, sx, _, rfl, y, rfl, sy, _, _, rfl, ?_⟩
    refine ⟨_, _, rfl, rfl, _, rfl, ?_⟩
    have out : ∀ {j : Nat}, j = lcp x.cps.toList y.cps.toList → Q (.int (j : Nat)) H' := fun e => by rw [e]; exact hQ
    by_cases hlt : k < x.cps.toList.length ∧ k < y.cps.toList.length
    · have e1 : decide (((k : Nat) : Int) < (if ((y.length : Nat) : Int) < ((x.length : Nat) : Int) then ((y.length : Nat) : Int) else ((x.length : Nat) : Int))) = true := decide_eq_true (by split <;> omega)
      dsimp only
      rw [e1]
      obtain ⟨c, hc⟩ : ∃ c, x.cps.toList[k]? = some c := ⟨_, List.getElem?_eq_getElem hlt.1⟩
      obtain ⟨d, hd⟩ : ∃ d, y.cps.toList[k]? = some d := ⟨_, List.getElem?_eq_getElem hlt.2⟩
      refine ⟨_, rfl, _, rfl, x, (k : Nat), c, rfl, rfl, sx, atI_nat hc, ?_⟩
      refine ⟨_, rfl, _, rfl, y, (k : Nat), d, rfl, rfl, sy, atI_nat hd, rfl, _, rfl, ?_⟩
      by_cases hcd : c = d
      · refine if_pos_of (by simp [hcd]) ⟨_, fun _ _ h => h, _, rfl, _, _, rfl, rfl, ?_⟩
        refine ⟨m - 1, by omega, rfl, k + 1, rfl, by omega, ?_⟩
        refine lcp_step ?_ (by omega) (by omega)
        have e3 : x.cps.toList.take k = y.cps.toList.take k := by
          have e4 := congrArg (fun l : List Nat => l.take k) (lcp_take x.cps.toList y.cps.toList)
          simpa [List.take_take, Nat.min_eq_left hk] using e4
        rw [take_snoc hc, take_snoc hd, e3, hcd]
      · refine if_neg_of (by simp [hcd]) ⟨_, rfl, out ?_⟩
        have := lcp_stop hc hd hcd
        omega
    · have e1 : decide (((k : Nat) : Int) < (if ((y.length : Nat) : Int) < ((x.length : Nat) : Int) then ((y.length : Nat) : Int) else ((x.length : Nat) : Int))) = false := decide_eq_false (by split <;> omega)
      dsimp only
      rw [e1]
      exact ⟨_, rfl, out (by omega)⟩

abbrev s_common : Stmt := topS 21
abbrev N_common : List Str := ["house", "one", "two"]
theorem sc_common : FnScope ["house", "one", "two"] ["house", "one", "two"] (defScope s_common) := ⟨rfl, rfl, rfl, by decide +kernel, rfl, by decide +kernel, by decide +kernel⟩
def okE (ts : List (Int × Str)) (x : Int × Nat) : Prop := ∃ z, txt ts x.1 = some z ∧ strLen z ≤ 1000 ∧ x.2 ≤ strLen z
def sp_common : Sp := fun vs H Q _ => ∃ (a e f : Addr) (ts : List (Int × Str)) (x y : Int × Nat), vs = [.ref a, .ref e, .ref f] ∧ LT H a (ts.map hrow) ∧ ts.length ≤ 1000 ∧ H e = some (.tup (erow x)) ∧ H f = some (.tup (erow y)) ∧ okE ts x ∧ okE ts y ∧
  ∀ H', Same H H' → Q (.int (lcp (letE ts x) (letE ts y) : Nat)) H'
theorem letE_of {ts : List (Int × Str)} {x : Int × Nat} {z : Str} (h : txt ts x.1 = some z) : letE ts x = (sufS z x.2).cps.toList := by unfold letE keyE; rw [h]; rfl
theorem sufS_len (z : Str) (k : Nat) : strLen (sufS z k) ≤ strLen z := by unfold strLen; rw [sufS_list, List.length_drop]; omega
theorem ok_common {f : Addr} {fd : FuncData} (F : Fun K "common" "common" s_common f fd) (h_is_end : HasF P w K mg base CX0 "is_end" 4 ["house", "end"] sp_is_end) (h_letters_of : HasF P w K mg base CX0 "letters_of" 4 ["house", "end"] sp_letters_of)
    (h_alike : HasF P w K mg base CX0 "alike" 1 ["one", "two"] sp_alike) : FnOk P w K mg base CX0 5 f fd ["house", "one", "two"] sp_common := by
  refine F.ok sc_common (fun vs H Q E h => ?_) (fun cdv A outer s H vs Q E hr h => ?_)
  · obtain ⟨a, e, g, ts, x, y, rfl, _⟩ := h
    rfl
  · obtain ⟨a, e, g, ts, x, y, rfl, hL, hlen, he, hg, ⟨z, z1, z2, z3⟩, ⟨u, u1, u2, u3⟩, hQ⟩ := h
    refine ⟨_, (pss_cons (ps_if (pt_not (pt_val (pe_callG h_is_end (hr.mono (by decide)) p0 (pa_cons (pv 0) (pa_cons (pv 1) pa_nil)))))
      (pss_one ps_never)
      pss_nil)
      (pss_cons (ps_if (pt_not (pt_val (pe_callG h_is_end (hr.mono (by decide)) p0 (pa_cons (pv 0) (pa_cons (pv 2) pa_nil)))))
      (pss_one ps_never)
      pss_nil)
      (pss_one (ps_ret (pe_callG h_alike (hr.mono (by decide)) p0 (pa_cons (pe_callG h_letters_of (hr.mono (by decide)) p0 (pa_cons (pv 0) (pa_cons (pv 1) pa_nil))) (pa_cons (pe_callG h_letters_of (hr.mono (by decide)) p0 (pa_cons (pv 0) (pa_cons (pv 2) pa_nil))) pa_nil))))))), ?_⟩
    refine ⟨_, rfl, _, rfl, a, e, ts, x, z, rfl, hL, hlen, he, z1, z2, z3, fun H1 s1 => ⟨_, rfl, ?_⟩⟩
    refine ⟨_, rfl, _, rfl, a, g, ts, y, u, rfl, hL.same s1, hlen, s1 _ _ hg, u1, u2, u3, fun H2 s2 => ⟨_, rfl, ?_⟩⟩
    have s3 := s1.trans s2
    refine ⟨_, rfl, _, rfl, a, e, ts, x, z, rfl, hL.same s3, s3 _ _ he, z1, z2, ?_⟩
    refine ⟨_, rfl, _, rfl, a, g, ts, y, u, rfl, hL.same s3, s3 _ _ hg, u1, u2, ?_⟩
    refine ⟨_, _, rfl, Nat.le_trans (sufS_len _ _) z2, Nat.le_trans (sufS_len _ _) u2, ?_⟩
    rw [← letE_of z1, ← letE_of u1]
    exact hQ H2 s3
end
end Sfx
end
section
set_option Elab.async false
set_option linter.all false
set_option maxRecDepth 100000
set_option maxHeartbeats 4000000
namespace Sfx
open PySem PySem.Spec L2
theorem paired_drop {α β : Type} {F : α → β → Prop} : ∀ {l : List α} {m : List β} (n : Nat), Paired F l m → Paired F (l.drop n) (m.drop n)
  | _, _, 0, h => h
  | _, _, _ + 1, .nil => .nil
  | _, _, n + 1, .cons _ t => paired_drop n t
theorem cutV_drop (xs : List V) (k : Nat) : cutV xs (some (k : Int)) none = xs.drop k := by
  unfold cutV
  rw [HT.sIx_nat, HT.sIx_none]
  rw [List.take_of_length_le (by rw [List.length_drop]; omega)]
  rcases Nat.le_total k xs.length with h | h
  · rw [Nat.min_eq_left h]
  · rw [Nat.min_eq_right h, List.drop_length, List.drop_of_length_le h]
theorem comms_len (L : List (List Nat)) : (comms L).length = L.length := by unfold comms; rw [List.length_map, List.length_range]
theorem comms_get {L : List (List Nat)} {k : Nat} (h : k < L.length) : (comms L)[k]? = some (if k = 0 then 0 else lcp (L.getD (k - 1) []) (L.getD k [])) := by
  unfold comms
  rw [List.getElem?_map, List.getElem?_range h]
  rfl
theorem mergeE_cons {α : Type} {lt : α → α → Bool} {l : List α} {e : α} {t : List α} (h : ∀ x r, l = x :: r → lt x e = false) : mergeE lt l (e :: t) = e :: mergeE lt l t := by
  cases l with
  | nil => simp [mergeE]
  | cons x r => rw [mergeE, h x r rfl, if_neg Bool.false_ne_true]
theorem LT.get {H : Hp} {a : Addr} {rows : List (List V)} (h : LT H a rows) : ∃ ps : List Addr, H a = some (.lst (ps.map V.ref)) ∧ ps.length = rows.length ∧ ∀ (i : Nat) r, rows[i]? = some r → ∃ p, ps[i]? = some p ∧ H p = some (.tup r) := by
  obtain ⟨ps, h1, h2⟩ := h
  exact ⟨ps, h1, paired_len h2, fun i r e => paired_get (F := fun p r => H p = some (.tup r)) h2 e⟩
theorem map_getI {α : Type} {f : α → List V} {l : List α} {i : Nat} {x : α} (h : l[i]? = some x) : (l.map f)[i]? = some (f x) := by rw [List.getElem?_map, h]; rfl
theorem atI_ref {ps : List Addr} {z : Int} {i : Nat} {p : Addr} (e : z = (i : Int)) (h : ps[i]? = some p) : atI (ps.map V.ref) z = some (.ref p) := by
  rw [e]
  exact atI_nat (by rw [List.getElem?_map, h]; rfl)
section
variable {P : Program} {w : World} {K : PySem.W.Frag} {mg : Str → Option Value} {base : Heap} {ec : Nat → Addr}
abbrev s_commons_of : Stmt := topS 22
abbrev N_commons_of : List Str := ["house", "order", "found", "k"]
theorem sc_commons_of : FnScope ["house", "order", "found", "k"] ["house", "order"] (defScope s_commons_of) := ⟨rfl, rfl, rfl, by decide +kernel, rfl, by decide +kernel, by decide +kernel⟩
def sp_commons_of : Sp := fun vs H Q _ => ∃ (a o : Addr) (ts : List (Int × Str)) (l : List (Int × Nat)), vs = [.ref a, .ref o] ∧ LT H a (ts.map hrow) ∧ ts.length ≤ 1000 ∧ LT H o (l.map erow) ∧ l.length ≤ 5000 ∧ (∀ e ∈ l, okE ts e) ∧
  ∀ p H', Same H H' → H p = none → H' p = some (.lst ((comms (l.map (letE ts))).map fun n => V.int (n : Nat))) → Q (.ref p) H'
theorem ok_commons_of {f : Addr} {fd : FuncData} (F : Fun K "commons_of" "commons_of" s_commons_of f fd) (T : Txt mg) (h_common : HasF P w K mg base CX0 "common" 5 ["house", "one", "two"] sp_common) : FnOk P w K mg base CX0 6 f fd ["house", "order"] sp_commons_of := by
  refine F.ok sc_commons_of (fun vs H Q E h => ?_) (fun cdv A outer s H vs Q E hr h => ?_)
  · obtain ⟨a, o, ts, l, rfl, _⟩ := h
    rfl
  · obtain ⟨a, o, ts, l, rfl, hL, hlen, hO, hol, hok, hQ⟩ := h
    refine ⟨_, (pss_cut (ps_set (i := 2) sc_commons_of.nd rfl (Or.inl rfl) (pe_ifExp (pt_truth (pv 1) (by intro _; rfl)) (pe_lst (pa_cons pe_int pa_nil)) (pe_lst pa_nil)))
      (pss_cons (ps_for PassesOwn.never rfl (pi_range2 rfl T.range (pa_cons pe_int (pa_cons (pe_callB (lenQ K) (by rfl) T.len (by decide +kernel) (pa_cons (pv 1) pa_nil)) pa_nil))) (pg_name (i := 3) sc_commons_of.nd rfl (Or.inl rfl))
      (pss_one (ps_expr (pe_bm PySem.F.plainAttrs_list PySem.F.slot_list_append PySem.F.type_list_append mt_append (pv 2) (pa_cons (pe_callG h_common (hr.mono (by decide)) p0 (pa_cons (pv 0) (pa_cons (pe_ix (ixL K) (pv 1) (pe_op op_sub (pv 3) pe_int) (fun _ _ => rfl)) (pa_cons (pe_ix (ixL K) (pv 1) (pv 3) (fun _ _ => rfl)) pa_nil)))) pa_nil)))))
      (pss_one (ps_ret (pv 2))))), ?_⟩
    obtain ⟨ps, h1, h2, h3⟩ := hO.get
    rw [List.length_map] at h2
    have hcl : (comms (l.map (letE ts))).length = l.length := by rw [comms_len, List.length_map]
    have g0 : ∀ k, k < l.length → ∃ x p, l[k]? = some x ∧ ps[k]? = some p ∧ H p = some (.tup (erow x)) ∧ okE ts x ∧ (l.map (letE ts)).getD k [] = letE ts x := fun k hk => by
      obtain ⟨x, hx⟩ : ∃ x, l[k]? = some x := ⟨_, List.getElem?_eq_getElem hk⟩
      obtain ⟨p, p1, p2⟩ := h3 k _ (map_getI hx)
      exact ⟨x, p, hx, p1, p2, hok x (List.mem_of_getElem? hx), by simp [List.getD, hx]⟩
    refine ⟨fun σ H1 => ∃ D, σ = [some (.ref a), some (.ref o), some (.ref D), none] ∧ Same H H1 ∧ H D = none ∧ H1 D = some (.lst (((comms (l.map (letE ts))).take 1).map fun n => V.int (n : Nat))), ?_, ?_⟩
    · refine ⟨_, rfl, _, .inl ⟨_, SqL.of h1, rfl⟩, ?_⟩
      cases l with
      | nil =>
        have : ps = [] := List.eq_nil_of_length_eq_zero h2
        subst this
        exact ⟨by decide, fun D hD => ⟨D, rfl, same_upd hD, hD, upd_same⟩⟩
      | cons x r =>
        cases ps with
        | nil => simp at h2
        | cons p ps =>
          refine ⟨by show 1 ≤ sizeLine; decide, fun D hD => ⟨D, rfl, same_upd hD, hD, ?_⟩⟩
          rw [upd_same]
          have e0 := comms_get (L := (x :: r).map (letE ts)) (k := 0) (by simp)
          rw [take_snoc e0]
          rfl
    · rintro σ H1 ⟨D, rfl, s1, hD0, hD⟩
      refine ⟨_, rfl, o, _, rfl, .inl (SqL.of (s1 _ _ h1)), 1, _, rfl, ⟨by decide, by decide, ?_, ?_⟩, ?_⟩
      · show -(2 ^ 62) ≤ (((ps.map V.ref).length : Nat) : Int); omega
      · show (((ps.map V.ref).length : Nat) : Int) < 2 ^ 62; rw [List.length_map]; omega
      refine for_range (fun i σ H' => ∃ v, σ = [some (.ref a), some (.ref o), some (.ref D), v] ∧ Same H H' ∧ H' D = some (.lst (((comms (l.map (letE ts))).take (i + 1)).map fun n => V.int (n : Nat)))) ⟨none, rfl, s1, hD⟩ ?_ ?_
      · rintro i σ H' hi ⟨v, rfl, s2, hd⟩
        have hi' : i + 1 < l.length := by rw [List.length_map, h2] at hi; omega
        obtain ⟨x, p, x1, x2, x3, x4, x5⟩ := g0 i (by omega)
        obtain ⟨y, q, y1, y2, y3, y4, y5⟩ := g0 (i + 1) hi'
        refine ⟨_, rfl, .inl ⟨rfl, _, SqL.of hd⟩, ?_⟩
        refine ⟨_, rfl, _, rfl, _, rfl, _, _, rfl, rfl, o, _, _, _, rfl, rfl, SqL.of (s2 _ _ h1), atI_ref (i := i) (by omega) x2, ?_⟩
        refine ⟨_, rfl, _, rfl, o, _, _, _, rfl, rfl, SqL.of (s2 _ _ h1), atI_ref (i := i + 1) (by omega) y2, ?_⟩
        refine ⟨a, p, q, ts, x, y, rfl, hL.same s2, hlen, s2 _ _ x3, s2 _ _ y3, x4, y4, fun H2 s3 => ?_⟩
        refine ⟨D, _, _, rfl, rfl, s3 _ _ hd, smallLt ?_, _, rfl, same_wr (s2.trans s3) hD0, ?_⟩
        · rw [List.length_map, List.length_take, hcl]; omega
        · have e1 := comms_get (L := l.map (letE ts)) (k := i + 1) (by rw [List.length_map]; exact hi')
          rw [if_neg (by omega), Nat.add_sub_cancel, x5, y5] at e1
          rw [upd_same, take_snoc e1, List.map_append]
          rfl
      · rintro σ H' ⟨v, rfl, s2, hd⟩
        refine ⟨_, rfl, hQ D H' s2 hD0 ?_⟩
        rw [hd, List.length_map, h2, List.take_of_length_le]
        rw [hcl]; omega

abbrev s_merged : Stmt := topS 24
abbrev N_merged : List Str := ["house", "one", "two", "found", "i", "end", "key"]
theorem sc_merged : FnScope ["house", "one", "two", "found", "i", "end", "key"] ["house", "one", "two"] (defScope s_merged) := ⟨rfl, rfl, rfl, by decide +kernel, rfl, by decide +kernel, by decide +kernel⟩
def sp_merged : Sp := fun vs H Q _ => ∃ (a o t : Addr) (ts : List (Int × Str)) (l m : List (Int × Nat)), vs = [.ref a, .ref o, .ref t] ∧ LT H a (ts.map hrow) ∧ LT H o (l.map erow) ∧ LT H t (m.map erow) ∧ l.length ≤ 5000 ∧ m.length ≤ 5000 ∧ (∀ e ∈ l, okE ts e) ∧ (∀ e ∈ m, okE ts e) ∧
  ∀ p H', Same H H' → H p = none → LT H' p ((mergeE (ltE ts) l m).map erow) → Q (.ref p) H'
theorem ok_merged {f : Addr} {fd : FuncData} (F : Fun K "merged" "merged" s_merged f fd) (T : Txt mg) (h_letters_of : HasF P w K mg base CX0 "letters_of" 4 ["house", "end"] sp_letters_of) : FnOk P w K mg base CX0 5 f fd ["house", "one", "two"] sp_merged := by
  refine F.ok sc_merged (fun vs H Q E h => ?_) (fun cdv A outer s H vs Q E hr h => ?_)
  · obtain ⟨a, o, t, ts, l, m, rfl, _⟩ := h
    rfl
  · obtain ⟨a, o, t, ts, l, m, rfl, hL, hO, hT, hll, hml, hlo, hmo, hQ⟩ := h
    refine ⟨_, (pss_cons (ps_set (i := 3) sc_merged.nd rfl (Or.inl rfl) (pe_lst pa_nil))
      (pss_cons (ps_set (i := 4) sc_merged.nd rfl (Or.inl rfl) pe_int)
      (pss_cons (ps_for PassesOwn.never rfl (pi_list (pv 2)) (pg_name (i := 5) sc_merged.nd rfl (Or.inl rfl))
      (pss_cons (ps_set (i := 6) sc_merged.nd rfl (Or.inl rfl) (pe_tup (pa_cons (pe_callG h_letters_of (hr.mono (by decide)) p0 (pa_cons (pv 0) (pa_cons (pv 5) pa_nil))) (pa_cons (pe_ix (ixT K) (pv 5) pe_int (fun _ _ => rfl)) pa_nil))))
      (pss_cons (ps_while PassesOwn.never (PW.pt (pw_and (pt_cmpR op_lt (pv 4) (pe_callB (lenQ K) (by rfl) T.len (by decide +kernel) (pa_cons (pv 1) pa_nil)) (nomark _)) (pw_and1 (pt_cmpR (op_ltSI hr.units0) (pe_tup (pa_cons (pe_callG h_letters_of (hr.mono (by decide)) p0 (pa_cons (pv 0) (pa_cons (pe_ix (ixL K) (pv 1) (pv 4) (fun _ _ => rfl)) pa_nil))) (pa_cons (pe_ix (ixT K) (pe_ix (ixL K) (pv 1) (pv 4) (fun _ _ => rfl)) pe_int (fun _ _ => rfl)) pa_nil))) (pv 6) (nomark _)))))
      (pss_cons (ps_expr (pe_bm PySem.F.plainAttrs_list PySem.F.slot_list_append PySem.F.type_list_append mt_append (pv 3) (pa_cons (pe_ix (ixL K) (pv 1) (pv 4) (fun _ _ => rfl)) pa_nil)))
      (pss_one (ps_aug (i := 4) sc_merged.nd rfl (Or.inl rfl) pe_int ip_add))))
      (pss_one (ps_expr (pe_bm PySem.F.plainAttrs_list PySem.F.slot_list_append PySem.F.type_list_append mt_append (pv 3) (pa_cons (pv 5) pa_nil)))))))
      (pss_one (ps_ret (pe_op op_cat (pv 3) (pe_slice (slL K) (pv 1) (po_some (pv 4)) po_none))))))), ?_⟩
    have keyv : ∀ (x : Int × Nat) z, txt ts x.1 = some z → keyE ts x = (sufS z x.2, x.1) := fun x z h => by unfold keyE; rw [h]; rfl
    obtain ⟨po, o1, o2, o3⟩ := hO.get
    rw [List.length_map] at o2
    obtain ⟨xt, hxt, _⟩ := hT.ref
    refine ⟨Nat.zero_le _, fun D hD => ?_⟩
    refine ⟨_, rfl, t, rfl, ⟨_, SqL.of (same_upd hD _ _ hxt)⟩, for_LT (H0 := H) hT (fun j σ H' => ∃ (G : List (Int × Nat)) (k : Nat) (v5 v6 : Option V), σ = [some (.ref a), some (.ref o), some (.ref t), some (.ref D), some (.int (k : Nat)), v5, v6] ∧ Same H H' ∧ LT H' D (G.map erow) ∧ k ≤ l.length ∧ G.length = k + j ∧ G ++ mergeE (ltE ts) (l.drop k) (m.drop j) = mergeE (ltE ts) l m) ⟨[], 0, none, none, rfl, same_upd hD, LT.nil, Nat.zero_le _, rfl, rfl⟩ (fun i σ H' _ ⟨_, _, _, _, _, h, _⟩ => h) ?_ ?_⟩
    · rintro j r e σ H' hj he ⟨G, k, v5, v6, rfl, s1, hd, hk, hG, hm⟩
      obtain ⟨x, hx, rfl⟩ := map_get hj
      have hjm : j < m.length := (List.getElem?_eq_some_iff.mp hx).1
      obtain ⟨z, z1, z2, z3⟩ := hmo x (List.mem_of_getElem? hx)
      refine ⟨_, rfl, _, rfl, a, e, ts, x, z, rfl, hL.same s1, he, z1, z2, _, rfl, e, _, 0, _, rfl, rfl, SqT.of he, atE0 x, (by show 2 ≤ sizeLine; decide), fun p1 hp1 => ?_⟩
      have hmd : m.drop j = x :: m.drop (j + 1) := by
        rw [List.drop_eq_getElem_cons hjm]
        congr 1
        exact (List.getElem?_eq_some_iff.mp hx).2
      rw [hmd] at hm
      refine ⟨fun n σ H2 => ∃ (G : List (Int × Nat)) (k : Nat), σ = [some (.ref a), some (.ref o), some (.ref t), some (.ref D), some (.int (k : Nat)), some (.ref e), some (.ref p1)] ∧ Same H H2 ∧ H2 p1 = some (.tup [.str (sufS z x.2), .int x.1]) ∧
        H2 e = some (.tup (erow x)) ∧ LT H2 D (G.map erow) ∧ n + k = l.length ∧ G.length = k + j ∧ G ++ mergeE (ltE ts) (l.drop k) (x :: m.drop (j + 1)) = mergeE (ltE ts) l m,
        ⟨l.length - k, G, k, rfl, same_to s1 hp1, upd_same, same_upd hp1 _ _ he, hd.same (same_upd hp1), by omega, hG, hm⟩, ?_⟩
      clear hG hm hk hd G k
      rintro n σ H2 ⟨G, k, rfl, s2, hp1', he', hd, hk, hG, hm⟩
      -- what stands behind the while
      have after : ∀ H3, Same H2 H3 → (∀ y r, l.drop k = y :: r → ltE ts y x = false) →
          (tDrop (tBM K "list" rAppend (tVar 3) (tCons (tVar 5) tNil))) { nx := fun σ H' => ∃ (G : List (Int × Nat)) (k : Nat) (v5 v6 : Option V), σ = [some (.ref a), some (.ref o), some (.ref t), some (.ref D), some (.int (k : Nat)), v5, v6] ∧ Same H H' ∧ LT H' D (G.map erow) ∧ k ≤ l.length ∧ G.length = k + (j + 1) ∧ G ++ mergeE (ltE ts) (l.drop k) (m.drop (j + 1)) = mergeE (ltE ts) l m, rt := Q } [some (.ref a), some (.ref o), some (.ref t), some (.ref D), some (.int (k : Nat)), some (.ref e), some (.ref p1)] H3 := by
        intro H3 s3 hlt
        obtain ⟨acc, a1, a2, a3⟩ := (hd.same s3).app (s3 _ _ he')
        rw [List.length_map] at a2
        refine ⟨_, rfl, .inl ⟨rfl, _, SqL.of a1⟩, _, rfl, D, acc, _, rfl, rfl, a1, smallLt (by omega), G ++ [x], k, _, _, rfl, same_wr (s2.trans s3) hD, ?_, by omega, ?_, ?_⟩
        · rw [List.map_append]; exact a3
        · rw [List.length_append, hG]; simp; omega
        · rw [mergeE_cons hlt] at hm
          rw [List.append_assoc]
          exact hm
      refine ⟨_, rfl, _, rfl, o, _, rfl, .inl (SqL.of (s2 _ _ o1)), _, _, rfl, rfl, _, rfl, ?_⟩
      rw [List.length_map, o2]
      by_cases hkl : k < l.length
      · rw [decide_eq_true (show ((k : Nat) : Int) < ((l.length : Nat) : Int) by omega)]
        obtain ⟨y, hy⟩ : ∃ y, l[k]? = some y := ⟨_, List.getElem?_eq_getElem hkl⟩
        obtain ⟨p, p1', p2'⟩ := o3 k _ (map_getI hy)
        obtain ⟨u, u1, u2, u3⟩ := hlo y (List.mem_of_getElem? hy)
        have hld : l.drop k = y :: l.drop (k + 1) := by
          rw [List.drop_eq_getElem_cons hkl]
          congr 1
          exact (List.getElem?_eq_some_iff.mp hy).2
        refine ⟨_, rfl, _, rfl, _, rfl, o, _, _, _, rfl, rfl, SqL.of (s2 _ _ o1), atI_ref rfl p1', a, p, ts, y, u, rfl, hL.same s2, s2 _ _ p2', u1, u2, ?_⟩
        refine ⟨_, rfl, _, rfl, o, _, _, _, rfl, rfl, SqL.of (s2 _ _ o1), atI_ref rfl p1', p, _, 0, _, rfl, rfl, SqT.of (s2 _ _ p2'), atE0 y, (by show 2 ≤ sizeLine; decide), fun q hq => ?_⟩
        have sq := same_upd (o := .tup [.str (sufS u y.2), .int y.1]) hq
        refine ⟨_, rfl, q, p1, (sufS u y.2, y.1), (sufS z x.2, x.1), rfl, rfl, upd_same, sq _ _ hp1', _, rfl, ?_⟩
        have ek : siLt (sufS u y.2, y.1) (sufS z x.2, x.1) = ltE ts y x := by unfold ltE; rw [keyv y u u1, keyv x z z1]
        rw [ek]
        cases hlt : ltE ts y x with
        | true =>
          refine ⟨_, fun _ _ h => h, ?_⟩
          obtain ⟨acc, a1, a2, a3⟩ := (hd.same sq).app (sq _ _ (s2 _ _ p2'))
          rw [List.length_map] at a2
          refine ⟨_, rfl, .inl ⟨rfl, _, SqL.of a1⟩, _, rfl, _, rfl, o, _, _, _, rfl, rfl, SqL.of (sq _ _ (s2 _ _ o1)), atI_ref rfl p1', D, acc, _, rfl, rfl, a1, smallLt (by omega), ?_⟩
          refine ⟨_, rfl, _, _, rfl, rfl, n - 1, by omega, G ++ [y], k + 1, rfl, same_wr (s2.trans sq) hD, ?_, ?_, ?_, by omega, ?_, ?_⟩
          · rw [upd_ne (ne_of (sq _ _ hp1') a1 (by intro z; cases z))]; exact sq _ _ hp1'
          · rw [upd_ne (ne_of (sq _ _ he') a1 (by intro z; cases z))]; exact sq _ _ he'
          · rw [List.map_append]; exact a3
          · rw [List.length_append, hG]; simp; omega
          · rw [hld, mergeE, if_pos hlt] at hm
            rw [List.append_assoc]
            exact hm
        | false =>
          exact after _ sq fun y' r' e => by rw [hld] at e; cases e; exact hlt
      · rw [decide_eq_false (show ¬ ((k : Nat) : Int) < ((l.length : Nat) : Int) by omega)]
        exact after _ (Same.refl _) fun y' r' e => by rw [List.drop_of_length_le (by omega)] at e; cases e
    · rintro σ H' ⟨G, k, v5, v6, rfl, s1, hd, hk, hG, hm⟩
      rw [List.length_map] at hG
      rw [List.length_map, List.drop_length, mergeE_nil] at hm
      obtain ⟨pg, g1, g2'⟩ := hd
      have hgl := paired_len g2'
      rw [List.length_map] at hgl
      refine ⟨_, rfl, _, rfl, _, rfl, _, rfl, o, _, rfl, SqL.of (s1 _ _ o1), fun q hq => ?_⟩
      rw [cutV_drop]
      have sq := same_upd (o := .lst ((po.map V.ref).drop k)) hq
      refine ⟨D, q, _, _, rfl, rfl, sq _ _ g1, upd_same, small ?_, fun p hp => ?_⟩
      · rw [List.length_drop, List.length_map, List.length_map]; omega
      have sp := (s1.trans sq).trans (same_upd (o := .lst (pg.map V.ref ++ (po.map V.ref).drop k)) hp)
      refine hQ p _ sp ((s1.trans sq).free hp) ⟨pg ++ po.drop k, by rw [upd_same, List.map_append, List.map_drop], ?_⟩
      rw [← hm, List.map_append]
      refine paired_app (paired_imp (fun _ _ e => same_upd hp _ _ (sq _ _ e)) g2') ?_
      obtain ⟨po', w1, w2⟩ := hO
      rw [w1] at o1
      have e2 : po' = po := by
        have e := HO.lst.inj (Option.some.inj o1)
        have inj : ∀ (l m : List Addr), l.map V.ref = m.map V.ref → l = m := fun l => by
          induction l with
          | nil => intro m h; cases m with
            | nil => rfl
            | cons _ _ => simp at h
          | cons b l ih => intro m h; cases m with
            | nil => simp at h
            | cons c m => simp at h; rw [h.1, ih m (by simpa using h.2)]
        exact inj _ _ e
      subst e2
      rw [List.map_drop]
      exact paired_imp (fun _ _ e => sp _ _ e) (paired_drop k w2)
end
end Sfx
end
section
set_option Elab.async false
set_option linter.all false
set_option maxRecDepth 100000
set_option maxHeartbeats 4000000
namespace Sfx
open PySem PySem.Spec L2
theorem ends_len {ts : List (Int × Str)} (h : ∀ t ∈ ts, strLen t.2 ≤ 40) : (ends ts).length ≤ 41 * ts.length := by
  unfold ends
  induction ts with
  | nil => simp
  | cons t r ih =>
    have h1 := h t List.mem_cons_self
    have h2 := ih fun x hx => h x (List.mem_cons_of_mem _ hx)
    rw [List.flatMap_cons, List.length_append, List.length_cons]
    unfold endsOf
    rw [List.length_map, List.length_range]
    unfold endsOf at h2
    omega
theorem order_len {ts : List (Int × Str)} {l : List (Int × Nat)} (g : GoodTs ts) (h : IsOrder ts l) : l.length ≤ 400 := by
  rw [h.1.length_eq]
  have := ends_len g.len
  have := g.most
  omega
theorem order_ok {ts : List (Int × Str)} {l : List (Int × Nat)} (g : GoodTs ts) (h : IsOrder ts l) : ∀ e ∈ l, okE ts e := fun e he => by
  obtain ⟨z, z1, z2⟩ := mem_ends.mp (h.1.mem_iff.mp he)
  exact ⟨z, txt_of_mem g.asc z1, by have := g.len _ z1; simp at this; omega, z2⟩
structure PutOk (ts : List (Int × Str)) (n : Int) (z : Str) : Prop where
  n0 : 0 ≤ n
  n1 : n ≤ 99
  no : ∀ t ∈ ts, t.1 ≠ n
  len : strLen z ≤ 40
  room : ts.length ≠ 8
theorem putOk {ts : List (Int × Str)} {n : Int} {z : Str} (h : putKind ts n z = none) : PutOk ts n z := by
  unfold putKind at h
  by_cases h1 : ¬ (0 ≤ n ∧ n ≤ 99)
  · rw [if_pos h1] at h; cases h
  · rw [if_neg h1] at h
    by_cases h2 : (txt ts n).isSome = true
    · rw [if_pos h2] at h; cases h
    · rw [if_neg h2] at h
      by_cases h3 : 40 < strLen z
      · rw [if_pos h3] at h; cases h
      · rw [if_neg h3] at h
        by_cases h4 : ts.length = 8
        · rw [if_pos h4] at h; cases h
        · refine ⟨by omega, by omega, txt_none.mp ?_, by omega, h4⟩
          cases q : txt ts n with
          | none => rfl
          | some y => rw [q] at h2; exact absurd rfl h2
theorem good_insN {ts : List (Int × Str)} {n : Int} {z : Str} (g : GoodTs ts) (p : PutOk ts n z) (hz : Ltr z) : GoodTs (insN ts n z) := by
  have m := fun t => mem_insN p.no (z := z) (t := t)
  refine ⟨asc_insN g.asc, fun t ht => ?_, fun t ht => ?_, fun t ht => ?_, ?_⟩
  · rcases (m t).mp ht with h | rfl
    · exact g.num t h
    · exact ⟨p.n0, p.n1⟩
  · rcases (m t).mp ht with h | rfl
    · exact g.ltr t h
    · exact hz
  · rcases (m t).mp ht with h | rfl
    · exact g.len t h
    · exact p.len
  · have := (perm_insN (z := z) p.no).length_eq
    have := g.most
    have := p.room
    simp at *
    omega
theorem good_del {ts : List (Int × Str)} {n : Int} (g : GoodTs ts) : GoodTs (ts.filter fun t => decide (t.1 ≠ n)) :=
  ⟨g.asc.sublist List.filter_sublist, fun t ht => g.num t (List.mem_filter.mp ht).1, fun t ht => g.ltr t (List.mem_filter.mp ht).1, fun t ht => g.len t (List.mem_filter.mp ht).1, Nat.le_trans (List.length_filter_le _ _) g.most⟩
def frow (z : Str) (k : Nat) : List V := [.str (sufS z k), .int (k : Nat)]
def unrow (r : List V) : Nat := match r with
  | [_, .int k] => k.toNat
  | _ => 0
theorem ks_of {z : Str} {rows' : List (List V)} {N : Nat} (p : rows'.Perm ((List.range N).map (frow z))) : ∃ ks : List Nat, rows' = ks.map (frow z) ∧ ks.Perm (List.range N) := by
  have e1 : ∀ k, unrow (frow z k) = k := fun k => by show ((k : Nat) : Int).toNat = k; omega
  refine ⟨rows'.map unrow, ?_, ?_⟩
  · rw [List.map_map]
    have : ∀ r ∈ rows', (frow z ∘ unrow) r = r := fun r hr => by
      obtain ⟨k, _, rfl⟩ := List.mem_map.mp (p.mem_iff.mp hr)
      show frow z (unrow (frow z k)) = _
      rw [e1]
    rw [List.map_congr_left this, List.map_id']
  · have := p.map unrow
    rw [List.map_map] at this
    have e : (List.range N).map (unrow ∘ frow z) = List.range N := (List.map_congr_left (g := fun k => k) fun k _ => e1 k).trans (List.map_id' _)
    rw [e] at this
    exact this
section
variable {P : Program} {w : World} {K : PySem.W.Frag} {mg : Str → Option Value} {base : Heap} {ec : Nat → Addr}
abbrev s_order_with : Stmt := topS 25
abbrev N_order_with : List Str := ["house", "order", "number", "text", "larger", "rows", "start", "_"]
theorem sc_order_with : FnScope ["house", "order", "number", "text", "larger", "rows", "start", "_"] ["house", "order", "number", "text"] (defScope s_order_with) := ⟨rfl, rfl, rfl, by decide +kernel, rfl, by decide +kernel, by decide +kernel⟩
def sp_order_with : Sp := fun vs H Q _ => ∃ (a o : Addr) (n : Int) (z : Str) (ts : List (Int × Str)) (l : List (Int × Nat)), vs = [.ref a, .ref o, .int n, .str z] ∧ LT H a (ts.map hrow) ∧ GoodTs ts ∧ LT H o (l.map erow) ∧ IsOrder ts l ∧ Ltr z ∧ putKind ts n z = none ∧
  ∀ p H' l', Same H H' → H p = none → IsOrder (insN ts n z) l' → LT H' p (l'.map erow) → Q (.ref p) H'
theorem ok_order_with {f : Addr} {fd : FuncData} (F : Fun K "order_with" "order_with" s_order_with f fd) (T : Txt mg) (h_with_text : HasF P w K mg base (L2N.CX P w) "with_text" 3 ["house", "number", "text"] (sp_with_text ec))
    (h_merged : HasF P w K mg base CX0 "merged" 5 ["house", "one", "two"] sp_merged) : FnOk P w K mg base CX0 6 f fd ["house", "order", "number", "text"] sp_order_with := by
  refine F.ok sc_order_with (fun vs H Q E h => ?_) (fun cdv A outer s H vs Q E hr h => ?_)
  · obtain ⟨a, o, n, z, ts, l, rfl, _⟩ := h
    rfl
  · obtain ⟨a, o, n, z, ts, l, rfl, hL, hg, hO, hord, hz, hk, hQ⟩ := h
    have pk := putOk hk
    have g' := good_insN hg pk hz
    refine ⟨_, (pss_cons (ps_set (i := 4) sc_order_with.nd rfl (Or.inl rfl) (pe_callG h_with_text (hr.mono (by decide)) pL (pa_cons (pv 0) (pa_cons (pv 2) (pa_cons (pv 3) pa_nil)))))
      (pss_cons (ps_set (i := 5) sc_order_with.nd rfl (Or.inl rfl) (pe_callB cr_sortedM (by rfl) T.sorted (by decide +kernel) (pa_cons (pe_lc (own := [("start", 6)]) (g := (gName 6)) (tt := tYes) rfl sc_order_with.nd (pi_range1 rfl T.range (pa_cons (pe_op op_add (pe_callB call_len_str (by rfl) T.len (by decide +kernel) (pa_cons (pv 3) pa_nil)) pe_int) pa_nil)) (blkOk_by (own := [("start", 6)]) (N := N_order_with) (sc := defScope s_order_with) (by decide +kernel)) (fun _ _ _ _ _ => (pg_name (i := 6) sc_order_with.nd rfl (Or.inl rfl))) (fun _ _ _ _ _ => pts_nil) (fun _ _ _ _ _ => (pe_tup (pa_cons (pe_slice sl_str (pv 3) (po_some (pv 6)) po_none) (pa_cons (pv 6) pa_nil))))) pa_nil)))
      (pss_one (ps_ret (pe_callG h_merged (hr.mono (by decide)) p0 (pa_cons (pv 4) (pa_cons (pv 1) (pa_cons (pe_lc (own := [("_", 7), ("start", 6)]) (g := (gTup K 2 (gCons (gName 7) (gCons (gName 6) gNil)))) (tt := tYes) rfl sc_order_with.nd (pi_list (pv 5)) (blkOk_by (own := [("_", 7), ("start", 6)]) (N := N_order_with) (sc := defScope s_order_with) (by decide +kernel)) (fun _ _ _ _ _ => (pg_tup rfl (pgs_cons (pg_name (i := 7) sc_order_with.nd rfl (Or.inl rfl)) (pgs_cons (pg_name (i := 6) sc_order_with.nd rfl (Or.inl rfl)) pgs_nil)))) (fun _ _ _ _ _ => pts_nil) (fun _ _ _ _ _ => (pe_tup (pa_cons (pv 2) (pa_cons (pv 6) pa_nil))))) pa_nil)))))))), ?_⟩
    have zl : z.length ≤ sizeLine := small (by have := pk.len; show strLen z ≤ _; omega)
    -- larger
    refine ⟨_, rfl, _, rfl, _, rfl, a, n, z, ts, rfl, hL, hg.asc, hg.most, hz, by have := pk.len; omega, (fun k e => by rw [hk] at e; cases e), fun _ b H1 s1 hb hB => ?_⟩
    -- rows
    refine ⟨_, rfl, z, rfl, zl, _, _, rfl, rfl, _, rfl, ?_, ?_, fun D hD => ?_⟩
    · have : z.length = strLen z := rfl; have := pk.len; omega
    · have : z.length = strLen z := rfl; have := pk.len; omega
    have en : (((z.length : Nat) : Int) + 1).toNat = strLen z + 1 := by have : z.length = strLen z := rfl; omega
    rw [en]
    refine lc_range (fun i H' => Same H1 H' ∧ LT H' D ((List.range i).map (frow z))) ⟨same_upd hD, LT.nil⟩ ?_ ?_
    · rintro i H' hi ⟨s2, hd⟩
      refine ⟨rfl, _, rfl, _, rfl, _, rfl, z, rfl, zl, _, rfl, by show 2 ≤ sizeLine; decide, fun p hp => ?_⟩
      rw [show (0 : Int) + ((i : Nat) : Int) = ((i : Nat) : Int) by omega, cutS_drop]
      obtain ⟨acc, a1, a2, a3⟩ := (hd.same (same_upd (o := .tup (frow z i)) hp)).app (p := p) (r := frow z i) upd_same
      refine ⟨acc, a1, smallLt ?_, same_wr (s2.trans (same_upd hp)) hD, ?_⟩
      · rw [a2, List.length_map, List.length_range]; have := pk.len; omega
      · rw [List.range_succ, List.map_append]; exact a3
    · rintro H2 ⟨s2, hd⟩
      refine ⟨D, _, [true, false], rfl, hd, by decide, fun r hr => by obtain ⟨k, _, rfl⟩ := List.mem_map.mp hr; rfl, fun qs rows' p hp hq hs hfree => ?_⟩
      obtain ⟨ks, rfl, kp⟩ := ks_of hp
      have hkl : ks.length ≤ 41 := by rw [kp.length_eq, List.length_range]; have := pk.len; omega
      have s3 := same_upd (o := .lst (qs.map V.ref)) hfree
      -- the new ends
      have hR : LT (upd H2 p (.lst (qs.map V.ref))) p (ks.map (frow z)) := ⟨qs, upd_same, paired_imp (fun _ _ e => s3 _ _ e) hq⟩
      refine ⟨_, rfl, _, rfl, _, rfl, p, rfl, ⟨_, SqL.of upd_same⟩, fun D2 hD2 => ?_⟩
      refine lc_LT hR (fun i H' => Same (upd H2 p (.lst (qs.map V.ref))) H' ∧ LT H' D2 (((ks.take i).map fun k => (n, k)).map erow)) ⟨same_upd hD2, LT.nil⟩ (fun i H' _ h => h.1) ?_ ?_
      · rintro i r q H' hi hq' ⟨s4, hd4⟩
        obtain ⟨k, hk', rfl⟩ := map_get hi
        refine g2 hq' ⟨rfl, _, rfl, _, rfl, by show 2 ≤ sizeLine; decide, fun p2 hp2 => ?_⟩
        obtain ⟨acc, a1, a2, a3⟩ := (hd4.same (same_upd (o := .tup (erow (n, k))) hp2)).app (p := p2) (r := erow (n, k)) upd_same
        refine ⟨acc, a1, smallLt ?_, same_wr (s4.trans (same_upd hp2)) hD2, ?_⟩
        · rw [a2, List.length_map, List.length_map, List.length_take]; omega
        · rw [take_snoc hk', List.map_append, List.map_append]; exact a3
      · rintro H3 ⟨s4, hd4⟩
        rw [List.length_map, List.take_length] at hd4
        have sall := ((s1.trans s2).trans s3).trans s4
        have s14 := (s2.trans s3).trans s4
        have o' := order_ins hg.asc pk.no hord kp hs
        have ok' := order_ok g' o'
        have memM := fun e => (mergeE_perm (lt := ltE (insN ts n z)) l (ks.map fun k => (n, k))).mem_iff (a := e)
        refine ⟨b, o, D2, insN ts n z, l, ks.map fun k => (n, k), rfl, hB.same s14, hO.same sall, hd4, ?_, ?_, ?_, ?_, fun r H4 s5 hr5 hL5 => ?_⟩
        · have := order_len hg hord; omega
        · rw [List.length_map]; omega
        · exact fun e he => ok' e ((memM e).mpr (List.mem_append_left _ he))
        · exact fun e he => ok' e ((memM e).mpr (List.mem_append_right _ he))
        · exact hQ r H4 _ (sall.trans s5) (sall.free hr5) o' hL5

abbrev s_order_without : Stmt := topS 26
abbrev N_order_without : List Str := ["house", "order", "number", "end"]
theorem sc_order_without : FnScope ["house", "order", "number", "end"] ["house", "order", "number"] (defScope s_order_without) := ⟨rfl, rfl, rfl, by decide +kernel, rfl, by decide +kernel, by decide +kernel⟩
def sp_order_without : Sp := fun vs H Q _ => ∃ (a o : Addr) (n : Int) (ts : List (Int × Str)) (l : List (Int × Nat)), vs = [.ref a, .ref o, .int n] ∧ LT H a (ts.map hrow) ∧ GoodTs ts ∧ LT H o (l.map erow) ∧ IsOrder ts l ∧ (txt ts n).isSome = true ∧
  ∀ p H' l', Same H H' → H p = none → IsOrder (ts.filter fun t => decide (t.1 ≠ n)) l' → LT H' p (l'.map erow) → Q (.ref p) H'
theorem ok_order_without {f : Addr} {fd : FuncData} (F : Fun K "order_without" "order_without" s_order_without f fd) (h_without_text : HasF P w K mg base (L2N.CX P w) "without_text" 4 ["house", "number"] (sp_without_text ec)) :
    FnOk P w K mg base CX0 5 f fd ["house", "order", "number"] sp_order_without := by
  refine F.ok sc_order_without (fun vs H Q E h => ?_) (fun cdv A outer s H vs Q E hr h => ?_)
  · obtain ⟨a, o, n, ts, l, rfl, _⟩ := h
    rfl
  · obtain ⟨a, o, n, ts, l, rfl, hL, hg, hO, hord, hn, hQ⟩ := h
    refine ⟨_, (pss_cons (ps_expr (pe_callG h_without_text (hr.mono (by decide)) pL (pa_cons (pv 0) (pa_cons (pv 2) pa_nil))))
      (pss_one (ps_ret (pe_lc (own := [("end", 3)]) (g := (gName 3)) rfl sc_order_without.nd (pi_list (pv 1)) (blkOk_by (own := [("end", 3)]) (N := N_order_without) (sc := defScope s_order_without) (by decide +kernel)) (fun _ _ _ _ _ => (pg_name (i := 3) sc_order_without.nd rfl (Or.inl rfl))) (fun _ _ _ _ _ => (pts_one (pt_cmpR op_ne (pe_ix (ixT K) (pv 3) pe_int (fun _ _ => rfl)) (pv 2) (nomark _)))) (fun _ _ _ _ _ => (pv 3)))))), ?_⟩
    refine ⟨_, rfl, _, rfl, a, n, ts, rfl, hL, by have := hg.most; omega, (fun e => by rw [e] at hn; cases hn), fun _ b H1 s1 _ _ => ?_⟩
    obtain ⟨xs, hx, _⟩ := hO.ref
    refine ⟨_, rfl, o, rfl, ⟨_, SqL.of (s1 _ _ hx)⟩, fun D hD => ?_⟩
    refine lc_LT (hO.same s1) (fun i H' => Same H1 H' ∧ LT H' D (((l.take i).filter fun e => decide (e.1 ≠ n)).map erow)) ⟨same_upd hD, LT.nil⟩ (fun i H' _ h => h.1) ?_ ?_
    · rintro i r p H' hi hp ⟨s2, hd⟩
      obtain ⟨x, hx', rfl⟩ := map_get hi
      refine ⟨rfl, _, rfl, p, _, 0, _, rfl, rfl, SqT.of hp, atE0 x, _, rfl, rfl, _, rfl, ?_⟩
      by_cases e : x.1 = n
      · refine if_neg_of (by simp [e]) ⟨s2, ?_⟩
        rw [take_snoc hx', List.filter_append]
        simpa [e] using hd
      · refine if_pos_of (by simp [e]) ?_
        obtain ⟨acc, a1, a2, a3⟩ := hd.app hp
        refine ⟨_, rfl, acc, a1, smallLt ?_, same_wr s2 hD, ?_⟩
        · rw [a2, List.length_map]
          have h1 := List.length_filter_le (fun t : Int × Nat => decide (t.1 ≠ n)) (l.take i)
          have h2 : (l.take i).length ≤ l.length := by rw [List.length_take]; omega
          have := order_len hg hord
          omega
        · rw [take_snoc hx', List.filter_append]
          simpa [e] using a3
    · rintro H2 ⟨s2, hd⟩
      rw [List.length_map, List.take_length] at hd
      exact hQ D H2 _ (s1.trans s2) (s1.free hD) (order_del hord) hd
end
end Sfx
end
section
set_option Elab.async false
set_option linter.all false
set_option maxRecDepth 100000
set_option maxHeartbeats 4000000
/-! The builder's states in the heap. -/
namespace Sfx
open PySem PySem.Spec L2
structure TxtN (K : PySem.W.Frag) (CN : Addr) : Prop where
  cl : Cls K CN
  index : NoAttr K CN "index"
  edges : NoAttr K CN "edges"
  link : NoAttr K CN "link"
  size : NoAttr K CN "size"
  pairs : NoAttr K CN "pairs"
  pair : NoAttr K CN "pair"
  number : NoAttr K CN "number"
structure TxtB (K : PySem.W.Frag) (CB : Addr) : Prop where
  cl : Cls K CB
  start : NoAttr K CB "start"
  nodes : NoAttr K CB "nodes"
def nf (idx : Nat) (e : Addr) (lk : V) (sz : Nat) (p : Addr) (pr : V) (num : Int) : List (Str × V) := [("index", .int (idx : Nat)), ("edges", .ref e), ("link", lk), ("size", .int (sz : Nat)), ("pairs", .ref p), ("pair", pr), ("number", .int num)]
def bf (s0 nl : Addr) : List (Str × V) := [("start", .ref s0), ("nodes", .ref nl)]
def lkV : Option Nat → V
  | none => .non
  | some a => .ref a
def sgn (c : Nat) : Str := ⟨#[c]⟩
def ekv (es : List (Nat × Nat)) : List (Key × V) := es.map fun q => (Sum.inr (sgn q.1), V.ref q.2)
theorem sgn_inj {c d : Nat} (h : sgn c = sgn d) : c = d := by
  have := congrArg (fun s : Str => s.cps.toList) h
  simpa [sgn] using this
theorem valV_ekv (es : List (Nat × Nat)) (c : Nat) : valV (ekv es) (Sum.inr (sgn c)) = (look es c).map V.ref := by
  induction es with
  | nil => rfl
  | cons q r ih =>
    show valV ((Sum.inr (sgn q.1), V.ref q.2) :: ekv r) _ = _
    rw [look_cons]
    by_cases e : q.1 = c
    · rw [if_pos e, valV_pos (by rw [e])]; rfl
    · rw [if_neg e, valV_neg (fun z => e (sgn_inj (Sum.inr.inj z))), ih]
theorem putK_ekv (es : List (Nat × Nat)) (c k : Nat) : putK (ekv es) (Sum.inr (sgn c)) (V.ref k) = ekv (aput es c k) := by
  have hd : ∀ q : Nat × Nat, decide ((Sum.inr (sgn q.1) : Key) = Sum.inr (sgn c)) = decide (q.1 = c) := fun q => by
    by_cases e : q.1 = c
    · simp [e]
    · rw [decide_eq_false e, decide_eq_false]; exact fun z => e (sgn_inj (Sum.inr.inj z))
  unfold putK aput
  have e1 : ((ekv es).any fun kv => decide (kv.1 = Sum.inr (sgn c))) = es.any fun q => decide (q.1 = c) := by
    unfold ekv
    rw [List.any_map]
    congr 1
    funext q
    exact hd q
  rw [e1]
  by_cases h : (es.any fun q => decide (q.1 = c)) = true
  · rw [if_pos h, if_pos h]
    unfold ekv
    rw [List.map_map, List.map_map]
    apply List.map_congr_left
    intro q _
    show (if (Sum.inr (sgn q.1) : Key) = Sum.inr (sgn c) then _ else _) = ((Sum.inr (sgn (if q.1 = c then (q.1, k) else q).1) : Key), V.ref (if q.1 = c then (q.1, k) else q).2)
    by_cases e : q.1 = c
    · rw [if_pos e, if_pos (by rw [e])]
    · rw [if_neg e, if_neg (fun z => e (sgn_inj (Sum.inr.inj z)))]
  · rw [if_neg h, if_neg h]
    unfold ekv
    rw [List.map_append]; rfl
/-- the data of a builder -/
structure BD where
  Vs : List Addr
  nd : Addr → Nd
  ed : Addr → Addr
  pl : Addr → Addr
  dx : Addr → Addr
  pv : Addr → V
  num : Addr → Int
  ps : Addr → List (Int × Nat)
  s0 : Addr
  nl : Addr
  dxb : Addr
def pairV (H : Hp) (v : V) : Option (Int × Nat) → Prop
  | none => v = .non
  | some x => ∃ t, v = .ref t ∧ H t = some (.tup (erow x))
theorem pairV.same {H H' : Hp} {v : V} {o : Option (Int × Nat)} (h : pairV H v o) (k : ∀ t r, H t = some (.tup r) → H' t = some (.tup r)) : pairV H' v o := by
  cases o with
  | none => exact h
  | some x => obtain ⟨t, e, ht⟩ := h; exact ⟨t, e, k _ _ ht⟩
/-- the builder at b, its states; what stood ahead (H0) as it was -/
structure BOk (CN CB : Addr) (H0 H : Hp) (b : Addr) (D : BD) : Prop where
  inst : ∀ i m, D.Vs[i]? = some m → H m = some (.ins CN (D.dx m) (nf i (D.ed m) (lkV (D.nd m).link) (D.nd m).size (D.pl m) (D.pv m) (D.num m)))
  edges : ∀ m ∈ D.Vs, H (D.ed m) = some (.dK (ekv (D.nd m).edges))
  pairs : ∀ m ∈ D.Vs, LT H (D.pl m) ((D.ps m).map erow)
  pair : ∀ m ∈ D.Vs, pairV H (D.pv m) (D.nd m).pair
  fr : ∀ m ∈ D.Vs, H0 m = none ∧ H0 (D.ed m) = none ∧ H0 (D.pl m) = none ∧ D.pl m ≠ D.nl
  edI : ∀ m ∈ D.Vs, ∀ m' ∈ D.Vs, D.ed m = D.ed m' → m = m'
  plI : ∀ m ∈ D.Vs, ∀ m' ∈ D.Vs, D.pl m = D.pl m' → m = m'
  nodup : D.Vs.Nodup
  same : Same H0 H
  obj : H b = some (.ins CB D.dxb (bf D.s0 D.nl))
  nodes : H D.nl = some (.lst (D.Vs.map V.ref))
  fb : H0 b = none ∧ H0 D.nl = none
  s0m : D.s0 ∈ D.Vs
  len : D.Vs.length ≤ 5000
  elen : ∀ m ∈ D.Vs, (D.nd m).edges.length ≤ 5000
  plen : ∀ m ∈ D.Vs, (D.ps m).length ≤ 5000
section
variable {CN CB : Addr} {H0 H : Hp} {b : Addr} {D : BD}
theorem BOk.at (B : BOk CN CB H0 H b D) {m : Addr} (hm : m ∈ D.Vs) : ∃ i, D.Vs[i]? = some m ∧ H m = some (.ins CN (D.dx m) (nf i (D.ed m) (lkV (D.nd m).link) (D.nd m).size (D.pl m) (D.pv m) (D.num m))) := by
  obtain ⟨i, hi⟩ := List.getElem?_of_mem hm
  exact ⟨i, hi, B.inst i m hi⟩
theorem ne_kind {H : Hp} {a c : Addr} {o u : HO} (h : H a = some o) (h' : H c = some u) (d : o ≠ u) : c ≠ a := fun e => by
  rw [e, h] at h'; exact d (Option.some.inj h')
/-- a change at x that is neither a state's, nor a list's of the builder's: all stays -/
theorem BOk.new (B : BOk CN CB H0 H b D) {x : Addr} {o : HO} (hx : H x = none) : BOk CN CB H0 (upd H x o) b D := by
  have k : ∀ a u, H a = some u → upd H x o a = some u := fun a u e => by rw [upd_ne (ne_of_none e hx)]; exact e
  exact ⟨fun i m h => k _ _ (B.inst i m h), fun m h => k _ _ (B.edges m h), fun m h => (B.pairs m h).same k, fun m h => (B.pair m h).same fun t r e => k _ _ e, B.fr, B.edI, B.plI, B.nodup, B.same.trans k, k _ _ B.obj, k _ _ B.nodes, B.fb, B.s0m, B.len, B.elen, B.plen⟩
/-- m's edges become es -/
theorem BOk.setE (B : BOk CN CB H0 H b D) {m : Addr} {es : List (Nat × Nat)} (hm : m ∈ D.Vs) (hl : es.length ≤ 5000) : BOk CN CB H0 (upd H (D.ed m) (.dK (ekv es))) b { D with nd := set D.nd m { D.nd m with edges := es } } := by
  have hme := B.edges m hm
  have kT : ∀ t r, H t = some (.tup r) → upd H (D.ed m) (.dK (ekv es)) t = some (.tup r) := fun t r e => by rw [upd_ne (ne_kind hme e (by intro z; cases z))]; exact e
  have kL : ∀ t r, H t = some (.lst r) → upd H (D.ed m) (.dK (ekv es)) t = some (.lst r) := fun t r e => by rw [upd_ne (ne_kind hme e (by intro z; cases z))]; exact e
  have kI : ∀ t C d f, H t = some (.ins C d f) → upd H (D.ed m) (.dK (ekv es)) t = some (.ins C d f) := fun t C d f e => by rw [upd_ne (ne_kind hme e (by intro z; cases z))]; exact e
  have same : ∀ m', (set D.nd m { D.nd m with edges := es } m').link = (D.nd m').link ∧ (set D.nd m { D.nd m with edges := es } m').size = (D.nd m').size ∧ (set D.nd m { D.nd m with edges := es } m').pair = (D.nd m').pair := fun m' => by
    unfold set
    by_cases e : m' = m
    · rw [if_pos e, e]; exact ⟨rfl, rfl, rfl⟩
    · rw [if_neg e]; exact ⟨rfl, rfl, rfl⟩
  refine ⟨fun i m' h => ?_, fun m' h => ?_, fun m' h => ?_, fun m' h => ?_, B.fr, B.edI, B.plI, B.nodup, same_wr B.same (B.fr m hm).2.1, kI _ _ _ _ B.obj, kL _ _ B.nodes, B.fb, B.s0m, B.len, fun m' h => ?_, B.plen⟩
  · obtain ⟨e1, e2, e3⟩ := same m'
    show _ = some (HO.ins CN (D.dx m') (nf i (D.ed m') (lkV (set D.nd m { D.nd m with edges := es } m').link) (set D.nd m { D.nd m with edges := es } m').size (D.pl m') (D.pv m') (D.num m')))
    rw [e1, e2]
    exact kI _ _ _ _ (B.inst i m' h)
  · show _ = some (HO.dK (ekv (set D.nd m { D.nd m with edges := es } m').edges))
    by_cases e : m' = m
    · subst e; rw [set_same, upd_same]
    · rw [set_ne e, upd_ne (fun z => e (B.edI m' h m hm z))]; exact B.edges m' h
  · obtain ⟨qs, q1, q2⟩ := B.pairs m' h
    exact ⟨qs, kL _ _ q1, paired_imp (fun _ _ e => kT _ _ e) q2⟩
  · show pairV _ (D.pv m') (set D.nd m { D.nd m with edges := es } m').pair
    rw [(same m').2.2]
    exact (B.pair m' h).same kT
  · show (set D.nd m { D.nd m with edges := es } m').edges.length ≤ 5000
    by_cases e : m' = m
    · subst e; rw [set_same]; exact hl
    · rw [set_ne e]; exact B.elen m' h
/-- another object at m: the same kind -/
theorem BOk.setI (B : BOk CN CB H0 H b D) {m : Addr} {i0 : Nat} {lk : Option Nat} {e' : Addr} {nu : Int} {es : List (Nat × Nat)} (hm : D.Vs[i0]? = some m) (he : e' = D.ed m ∧ es = (D.nd m).edges ∨ H e' = some (.dK (ekv es)) ∧ H0 e' = none ∧ (∀ m' ∈ D.Vs, D.ed m' ≠ e') ∧ es.length ≤ 5000) :
    BOk CN CB H0 (upd H m (.ins CN (D.dx m) (nf i0 e' (lkV lk) (D.nd m).size (D.pl m) (D.pv m) nu))) b
      { D with nd := set D.nd m { D.nd m with link := lk, edges := es }, ed := fun x => if x = m then e' else D.ed x, num := fun x => if x = m then nu else D.num x } := by
  have hmv : m ∈ D.Vs := List.mem_of_getElem? hm
  have hmi := B.inst i0 m hm
  generalize ho : HO.ins CN (D.dx m) (nf i0 e' (lkV lk) (D.nd m).size (D.pl m) (D.pv m) nu) = o
  have kT : ∀ t r, H t = some (.tup r) → upd H m o t = some (.tup r) := fun t r e => by rw [upd_ne (ne_kind hmi e (by intro z; cases z))]; exact e
  have kL : ∀ t r, H t = some (.lst r) → upd H m o t = some (.lst r) := fun t r e => by rw [upd_ne (ne_kind hmi e (by intro z; cases z))]; exact e
  have kD : ∀ t r, H t = some (.dK r) → upd H m o t = some (.dK r) := fun t r e => by rw [upd_ne (ne_kind hmi e (by intro z; cases z))]; exact e
  have bm : b ≠ m := fun e => by
    have h1 := B.obj
    rw [e, hmi] at h1
    have h2 := HO.ins.inj (Option.some.inj h1)
    have h3 := h2.2.2
    unfold nf bf at h3
    exact absurd (congrArg List.length h3) (by simp)
  have ixI : ∀ i m', D.Vs[i]? = some m' → m' = m → i = i0 := fun i m' h e => by
    subst e
    exact nd_ix B.nodup h hm
  refine ⟨fun i m' h => ?_, fun m' h => ?_, fun m' h => ?_, fun m' h => ?_, fun m' h => ?_, fun a ha c hc e => ?_, B.plI, B.nodup, same_wr B.same (B.fr m hmv).1, ?_, kL _ _ B.nodes, B.fb, B.s0m, B.len, fun m' h => ?_, B.plen⟩
  · by_cases e : m' = m
    · have hi := ixI i m' h e
      subst e hi
      rw [upd_same, ← ho]
      show _ = some (HO.ins CN (D.dx m') (nf i (if m' = m' then e' else D.ed m') (lkV (set D.nd m' { D.nd m' with link := lk, edges := es } m').link) (set D.nd m' { D.nd m' with link := lk, edges := es } m').size (D.pl m') (D.pv m') (if m' = m' then nu else D.num m')))
      rw [if_pos rfl, if_pos rfl, set_same]
    · rw [upd_ne e]
      show _ = some (HO.ins CN (D.dx m') (nf i (if m' = m then e' else D.ed m') (lkV (set D.nd m { D.nd m with link := lk, edges := es } m').link) (set D.nd m { D.nd m with link := lk, edges := es } m').size (D.pl m') (D.pv m') (if m' = m then nu else D.num m')))
      rw [if_neg e, if_neg e, set_ne e]
      exact B.inst i m' h
  · show _ = some (HO.dK (ekv (set D.nd m { D.nd m with link := lk, edges := es } m').edges))
    show upd H m o (if m' = m then e' else D.ed m') = _
    by_cases e : m' = m
    · subst e
      rw [if_pos rfl, set_same]
      rcases he with ⟨q1, q2⟩ | ⟨q1, _⟩
      · rw [q1, q2]; exact kD _ _ (B.edges m' h)
      · exact kD _ _ q1
    · rw [if_neg e, set_ne e]; exact kD _ _ (B.edges m' h)
  · obtain ⟨qs, q1, q2⟩ := B.pairs m' h
    exact ⟨qs, kL _ _ q1, paired_imp (fun _ _ e => kT _ _ e) q2⟩
  · show pairV _ (D.pv m') (set D.nd m { D.nd m with link := lk, edges := es } m').pair
    have : (set D.nd m { D.nd m with link := lk, edges := es } m').pair = (D.nd m').pair := by
      by_cases e : m' = m
      · subst e; rw [set_same]
      · rw [set_ne e]
    rw [this]
    exact (B.pair m' h).same kT
  · obtain ⟨f1, f2, f3, f4⟩ := B.fr m' h
    refine ⟨f1, ?_, f3, f4⟩
    show H0 (if m' = m then e' else D.ed m') = none
    by_cases e : m' = m
    · rw [if_pos e]
      rcases he with ⟨q1, _⟩ | ⟨_, q1, _⟩
      · rw [q1, ← e]; exact f2
      · exact q1
    · rw [if_neg e]; exact f2
  · have e : (if a = m then e' else D.ed a) = (if c = m then e' else D.ed c) := e
    by_cases ea : a = m
    · by_cases ec : c = m
      · rw [ea, ec]
      · rw [if_pos ea, if_neg ec] at e
        rcases he with ⟨q1, _⟩ | ⟨_, _, q1, _⟩
        · rw [ea]; exact B.edI m hmv c hc (q1 ▸ e)
        · exact absurd e.symm (q1 c hc)
    · by_cases ec : c = m
      · rw [if_neg ea, if_pos ec] at e
        rcases he with ⟨q1, _⟩ | ⟨_, _, q1, _⟩
        · rw [ec]; exact B.edI a ha m hmv (q1 ▸ e)
        · exact absurd e (q1 a ha)
      · rw [if_neg ea, if_neg ec] at e
        exact B.edI a ha c hc e
  · rw [upd_ne bm]; exact B.obj
  · show (set D.nd m { D.nd m with link := lk, edges := es } m').edges.length ≤ 5000
    by_cases e : m' = m
    · subst e
      rw [set_same]
      rcases he with ⟨_, q⟩ | ⟨_, _, _, q⟩
      · rw [q]; exact B.elen m' h
      · exact q
    · rw [set_ne e]; exact B.elen m' h
/-- a pair more at m's list -/
theorem BOk.setP (B : BOk CN CB H0 H b D) {m t : Addr} {x : Int × Nat} (hm : m ∈ D.Vs) (ht : H t = some (.tup (erow x))) (hl : (D.ps m).length < 5000) :
    ∃ acc, H (D.pl m) = some (.lst acc) ∧ acc.length = (D.ps m).length ∧ BOk CN CB H0 (upd H (D.pl m) (.lst (acc ++ [V.ref t]))) b { D with ps := fun y => if y = m then D.ps m ++ [x] else D.ps y } := by
  obtain ⟨acc, a1, a2, a3⟩ := (B.pairs m hm).app ht
  rw [List.length_map] at a2
  refine ⟨acc, a1, a2, ?_⟩
  have kT : ∀ u r, H u = some (.tup r) → upd H (D.pl m) (.lst (acc ++ [V.ref t])) u = some (.tup r) := fun u r e => by rw [upd_ne (ne_kind a1 e (by intro z; cases z))]; exact e
  have kD : ∀ u r, H u = some (.dK r) → upd H (D.pl m) (.lst (acc ++ [V.ref t])) u = some (.dK r) := fun u r e => by rw [upd_ne (ne_kind a1 e (by intro z; cases z))]; exact e
  have kI : ∀ t' C d f, H t' = some (.ins C d f) → upd H (D.pl m) (.lst (acc ++ [V.ref t])) t' = some (.ins C d f) := fun t' C d f e => by rw [upd_ne (ne_kind a1 e (by intro z; cases z))]; exact e
  refine ⟨fun i m' h => kI _ _ _ _ (B.inst i m' h), fun m' h => kD _ _ (B.edges m' h), fun m' h => ?_, fun m' h => (B.pair m' h).same kT, B.fr, B.edI, B.plI, B.nodup, same_wr B.same (B.fr m hm).2.2.1, kI _ _ _ _ B.obj, ?_, B.fb, B.s0m, B.len, B.elen, fun m' h => ?_⟩
  · show LT _ (D.pl m') ((if m' = m then D.ps m ++ [x] else D.ps m').map erow)
    by_cases e : m' = m
    · rw [if_pos e, e, List.map_append]; exact a3
    · rw [if_neg e]
      obtain ⟨qs, q1, q2⟩ := B.pairs m' h
      exact ⟨qs, by rw [upd_ne (fun z => e (B.plI m' h m hm z))]; exact q1, paired_imp (fun _ _ e => kT _ _ e) q2⟩
  · rw [upd_ne (Ne.symm (B.fr m hm).2.2.2)]; exact B.nodes
  · show (if m' = m then D.ps m ++ [x] else D.ps m').length ≤ 5000
    by_cases e : m' = m
    · rw [if_pos e, List.length_append]; show (D.ps m).length + 1 ≤ 5000; omega
    · rw [if_neg e]; exact B.plen m' h
/-- the data with a new state n -/
def BD.add (D : BD) (n e p dx : Addr) (v : V) (sz : Nat) (pr : Option (Int × Nat)) : BD :=
  { D with Vs := D.Vs ++ [n], nd := set D.nd n { edges := [], link := none, size := sz, pair := pr }, ed := fun x => if x = n then e else D.ed x, pl := fun x => if x = n then p else D.pl x, dx := fun x => if x = n then dx else D.dx x, pv := fun x => if x = n then v else D.pv x, num := fun x => if x = n then 0 else D.num x, ps := fun x => if x = n then [] else D.ps x }
/-- the state n is new: it stands, and is not yet in the list of the states -/
theorem BOk.add (B : BOk CN CB H0 H b D) {n e p dx : Addr} {v : V} {sz : Nat} {pr : Option (Int × Nat)} {H1 : Hp} (s : Same H H1) (hn : H n = none) (he : H e = none) (hp : H p = none)
    (h1 : H1 n = some (.ins CN dx (nf D.Vs.length e .non sz p v 0))) (h2 : H1 e = some (.dK [])) (h3 : H1 p = some (.lst [])) (hv : pairV H1 v pr) (hl : D.Vs.length < 5000) :
    BOk CN CB H0 (upd H1 D.nl (.lst (D.Vs.map V.ref ++ [V.ref n]))) b (D.add n e p dx v sz pr) ∧ n ∉ D.Vs := by
  have nV : n ∉ D.Vs := fun h => by obtain ⟨i, _, q⟩ := B.at h; rw [hn] at q; cases q
  have hnl := s _ _ B.nodes
  have kT : ∀ u r, H1 u = some (.tup r) → upd H1 D.nl (.lst (D.Vs.map V.ref ++ [V.ref n])) u = some (.tup r) := fun u r e => by rw [upd_ne (ne_kind hnl e (by intro z; cases z))]; exact e
  have kD : ∀ u r, H1 u = some (.dK r) → upd H1 D.nl (.lst (D.Vs.map V.ref ++ [V.ref n])) u = some (.dK r) := fun u r e => by rw [upd_ne (ne_kind hnl e (by intro z; cases z))]; exact e
  have kI : ∀ t' C d f, H1 t' = some (.ins C d f) → upd H1 D.nl (.lst (D.Vs.map V.ref ++ [V.ref n])) t' = some (.ins C d f) := fun t' C d f e => by rw [upd_ne (ne_kind hnl e (by intro z; cases z))]; exact e
  have kP : ∀ u r, H1 u = some (.lst r) → u ≠ D.nl → upd H1 D.nl (.lst (D.Vs.map V.ref ++ [V.ref n])) u = some (.lst r) := fun u r e ne => by rw [upd_ne ne]; exact e
  have ne_of_mem : ∀ m ∈ D.Vs, m ≠ n := fun m hm e => nV (e ▸ hm)
  have pnl : p ≠ D.nl := fun e => by rw [e, B.nodes] at hp; cases hp
  have inV : ∀ m, m ∈ D.Vs ++ [n] → m ∈ D.Vs ∨ m = n := fun m h => by simpa using h
  refine ⟨⟨fun i m h => ?_, fun m h => ?_, fun m h => ?_, fun m h => ?_, fun m h => ?_, fun a ha c hc e' => ?_, fun a ha c hc e' => ?_, ?_, same_wr (B.same.trans s) B.fb.2, kI _ _ _ _ (s _ _ B.obj), ?_, B.fb, List.mem_append_left _ B.s0m, ?_, fun m h => ?_, fun m h => ?_⟩, nV⟩
  · have h : (D.Vs ++ [n])[i]? = some m := h
    rcases Nat.lt_or_ge i D.Vs.length with l | l
    · rw [List.getElem?_append_left l] at h
      have ne := ne_of_mem m (List.mem_of_getElem? h)
      show _ = some (HO.ins CN (if m = n then dx else D.dx m) (nf i (if m = n then e else D.ed m) (lkV (set D.nd n _ m).link) (set D.nd n _ m).size (if m = n then p else D.pl m) (if m = n then v else D.pv m) (if m = n then 0 else D.num m)))
      rw [if_neg ne, if_neg ne, if_neg ne, if_neg ne, if_neg ne, set_ne ne]
      exact kI _ _ _ _ (s _ _ (B.inst i m h))
    · rw [List.getElem?_append_right l] at h
      have : i - D.Vs.length = 0 ∧ m = n := by
        cases q : i - D.Vs.length with
        | zero => rw [q] at h; simp at h; exact ⟨rfl, h.symm⟩
        | succ k => rw [q] at h; simp at h
      obtain ⟨q1, rfl⟩ := this
      have hi : i = D.Vs.length := by omega
      subst hi
      show _ = some (HO.ins CN (if m = m then dx else D.dx m) (nf _ (if m = m then e else D.ed m) (lkV (set D.nd m _ m).link) (set D.nd m _ m).size (if m = m then p else D.pl m) (if m = m then v else D.pv m) (if m = m then 0 else D.num m)))
      rw [if_pos rfl, if_pos rfl, if_pos rfl, if_pos rfl, if_pos rfl, set_same]
      exact kI _ _ _ _ h1
  · show upd H1 D.nl _ (if m = n then e else D.ed m) = some (HO.dK (ekv (set D.nd n _ m).edges))
    rcases inV m h with h | rfl
    · rw [if_neg (ne_of_mem m h), set_ne (ne_of_mem m h)]; exact kD _ _ (s _ _ (B.edges m h))
    · rw [if_pos rfl, set_same]; exact kD _ _ h2
  · show LT _ (if m = n then p else D.pl m) ((if m = n then [] else D.ps m).map erow)
    rcases inV m h with h | rfl
    · rw [if_neg (ne_of_mem m h), if_neg (ne_of_mem m h)]
      obtain ⟨qs, q1, q2⟩ := B.pairs m h
      exact ⟨qs, kP _ _ (s _ _ q1) (B.fr m h).2.2.2, paired_imp (fun _ _ e => kT _ _ (s _ _ e)) q2⟩
    · rw [if_pos rfl, if_pos rfl]
      exact ⟨[], kP _ _ h3 pnl, .nil⟩
  · show pairV _ (if m = n then v else D.pv m) (set D.nd n _ m).pair
    rcases inV m h with h | rfl
    · rw [if_neg (ne_of_mem m h), set_ne (ne_of_mem m h)]
      exact (B.pair m h).same fun t r e => kT _ _ (s _ _ e)
    · rw [if_pos rfl, set_same]
      exact hv.same kT
  · show H0 m = none ∧ H0 (if m = n then e else D.ed m) = none ∧ H0 (if m = n then p else D.pl m) = none ∧ (if m = n then p else D.pl m) ≠ D.nl
    rcases inV m h with h | rfl
    · rw [if_neg (ne_of_mem m h), if_neg (ne_of_mem m h)]; exact B.fr m h
    · rw [if_pos rfl, if_pos rfl]
      exact ⟨B.same.free hn, B.same.free he, B.same.free hp, pnl⟩
  · have e' : (if a = n then e else D.ed a) = (if c = n then e else D.ed c) := e'
    have old : ∀ m ∈ D.Vs, D.ed m ≠ e := fun m hm z => by have := B.edges m hm; rw [z, he] at this; cases this
    rcases inV a ha with ha | rfl
    · rcases inV c hc with hc | rfl
      · rw [if_neg (ne_of_mem a ha), if_neg (ne_of_mem c hc)] at e'; exact B.edI a ha c hc e'
      · rw [if_neg (ne_of_mem a (by assumption)), if_pos rfl] at e'; exact absurd e' (old a (by assumption))
    · rcases inV c hc with hc | rfl
      · rw [if_pos rfl, if_neg (ne_of_mem c hc)] at e'; exact absurd e'.symm (old c hc)
      · rfl
  · have e' : (if a = n then p else D.pl a) = (if c = n then p else D.pl c) := e'
    have old : ∀ m ∈ D.Vs, D.pl m ≠ p := fun m hm z => by obtain ⟨_, q, _⟩ := B.pairs m hm; rw [z, hp] at q; cases q
    rcases inV a ha with ha | rfl
    · rcases inV c hc with hc | rfl
      · rw [if_neg (ne_of_mem a ha), if_neg (ne_of_mem c hc)] at e'; exact B.plI a ha c hc e'
      · rw [if_neg (ne_of_mem a (by assumption)), if_pos rfl] at e'; exact absurd e' (old a (by assumption))
    · rcases inV c hc with hc | rfl
      · rw [if_pos rfl, if_neg (ne_of_mem c hc)] at e'; exact absurd e'.symm (old c hc)
      · rfl
  · show (D.Vs ++ [n]).Nodup
    rw [List.nodup_append]
    refine ⟨B.nodup, by simp, fun x hx y hy e => nV ?_⟩
    have q : y = n := by simpa using hy
    rw [← q, ← e]
    exact hx
  · show upd H1 D.nl _ D.nl = some (.lst ((D.Vs ++ [n]).map V.ref))
    rw [upd_same, List.map_append]; rfl
  · show (D.Vs ++ [n]).length ≤ 5000
    rw [List.length_append]; show D.Vs.length + 1 ≤ 5000; omega
  · show (set D.nd n _ m).edges.length ≤ 5000
    rcases inV m h with h | rfl
    · rw [set_ne (ne_of_mem m h)]; exact B.elen m h
    · rw [set_same]; exact Nat.zero_le _
  · show (if m = n then [] else D.ps m).length ≤ 5000
    rcases inV m h with h | rfl
    · rw [if_neg (ne_of_mem m h)]; exact B.plen m h
    · rw [if_pos rfl]; exact Nat.zero_le _
end
end Sfx
end
section
set_option Elab.async false
set_option linter.all false
set_option maxRecDepth 100000
set_option maxHeartbeats 4000000
namespace Sfx
open PySem PySem.Spec L2
section
variable {P : Program} {w : World} {K : PySem.W.Frag} {mg : Str → Option Value} {base : Heap} {ec : Nat → Addr} {CN CB : Addr}
abbrev s_Node_init : Stmt := inClass (topS 28) 0
abbrev N_Node_init : List Str := ["self", "index", "size", "pair"]
theorem sc_Node_init : FnScope ["self", "index", "size", "pair"] ["self", "index", "size", "pair"] (defScope s_Node_init) := ⟨rfl, rfl, rfl, by decide +kernel, rfl, by decide +kernel, by decide +kernel⟩
def sp_Node_init (CN : Addr) : Sp := fun vs H Q _ => ∃ (x dx : Addr) (i sz : Nat) (v : V), vs = [.ref x, .int (i : Nat), .int (sz : Nat), v] ∧ H x = some (.ins CN dx []) ∧
  ∀ H' e p, (∀ c o, H c = some o → c ≠ x → H' c = some o) → H e = none → H p = none → H' x = some (.ins CN dx (nf i e .non sz p v 0)) → H' e = some (.dK []) → H' p = some (.lst []) → Q .non H'
theorem ok_Node_init {f : Addr} {fd : FuncData} (F : Fun K "__init__" "Node.__init__" s_Node_init f fd) (TN : TxtN K CN) : FnOk P w K mg base CX0 1 f fd ["self", "index", "size", "pair"] (sp_Node_init CN) := by
  refine F.ok sc_Node_init (fun vs H Q E h => ?_) (fun cdv A outer s H vs Q E hr h => ?_)
  · obtain ⟨x, dx, i, sz, v, rfl, _⟩ := h
    rfl
  · obtain ⟨x, dx, i, sz, v, rfl, hx, hQ⟩ := h
    refine ⟨_, (pss_cons (ps_fld (pv 0) (pv 1) rfl)
      (pss_cons (ps_fld (pv 0) pe_dnewK rfl)
      (pss_cons (ps_fld (pv 0) pe_non rfl)
      (pss_cons (ps_fld (pv 0) (pv 2) rfl)
      (pss_cons (ps_fld (pv 0) (pe_lst pa_nil) rfl)
      (pss_cons (ps_fld (pv 0) (pv 3) rfl)
      (pss_one (ps_fld (pv 0) pe_int rfl)))))))), ?_⟩
    have lt : ∀ {n : Nat}, n ≤ 7 → n < 1000 := fun h => by omega
    refine ⟨_, rfl, _, rfl, x, CN, dx, _, rfl, hx, TN.cl, TN.index, (by decide), fun e he => ?_⟩
    have xe : x ≠ e := fun z => by rw [← z, upd_same] at he; cases he
    refine ⟨_, rfl, x, CN, dx, _, rfl, (by rw [upd_ne xe, upd_same]), TN.cl, TN.edges, (by show 1 < 1000; decide), ?_⟩
    refine ⟨_, rfl, x, CN, dx, _, rfl, upd_same, TN.cl, TN.link, (by show 2 < 1000; decide), ?_⟩
    refine ⟨_, rfl, _, rfl, x, CN, dx, _, rfl, upd_same, TN.cl, TN.size, (by show 3 < 1000; decide), ?_⟩
    refine ⟨Nat.zero_le _, fun p hp => ?_⟩
    have xp : x ≠ p := fun z => by rw [← z, upd_same] at hp; cases hp
    refine ⟨_, rfl, x, CN, dx, _, rfl, (by rw [upd_ne xp, upd_same]), TN.cl, TN.pairs, (by show 4 < 1000; decide), ?_⟩
    refine ⟨_, rfl, _, rfl, x, CN, dx, _, rfl, upd_same, TN.cl, TN.pair, (by show 5 < 1000; decide), ?_⟩
    refine ⟨_, rfl, x, CN, dx, _, rfl, upd_same, TN.cl, TN.number, (by show 6 < 1000; decide), ?_⟩
    have he0 : H e = none := by rw [upd_ne (Ne.symm xe)] at he; exact he
    have ep : e ≠ p := fun z => by
      rw [← z, upd_ne (Ne.symm xe), upd_ne (Ne.symm xe), upd_ne (Ne.symm xe), upd_same] at hp; cases hp
    have hp0 : H p = none := by
      rw [upd_ne (Ne.symm xp), upd_ne (Ne.symm xp), upd_ne (Ne.symm xp), upd_ne (Ne.symm ep), upd_ne (Ne.symm xp)] at hp; exact hp
    refine hQ _ e p (fun c o hc ne => ?_) he0 hp0 upd_same ?_ ?_
    · have nce := ne_of_none hc he0
      have ncp := ne_of_none hc hp0
      rw [upd_ne ne, upd_ne ne, upd_ne ne, upd_ne ncp, upd_ne ne, upd_ne ne, upd_ne ne, upd_ne nce, upd_ne ne]; exact hc
    · rw [upd_ne (Ne.symm xe), upd_ne (Ne.symm xe), upd_ne (Ne.symm xe), upd_ne ep, upd_ne (Ne.symm xe), upd_ne (Ne.symm xe), upd_ne (Ne.symm xe), upd_same]
    · rw [upd_ne (Ne.symm xp), upd_ne (Ne.symm xp), upd_ne (Ne.symm xp), upd_same]

abbrev s_Builder_init : Stmt := inClass (topS 29) 0
abbrev N_Builder_init : List Str := ["self"]
theorem sc_Builder_init : FnScope ["self"] ["self"] (defScope s_Builder_init) := ⟨rfl, rfl, rfl, by decide +kernel, rfl, by decide +kernel, by decide +kernel⟩
def bd0 (s0 e p dx nl dxb : Addr) : BD := { Vs := [s0], nd := fun _ => { edges := [], link := none, size := 0, pair := none }, ed := fun _ => e, pl := fun _ => p, dx := fun _ => dx, pv := fun _ => .non, num := fun _ => 0, ps := fun _ => [], s0 := s0, nl := nl, dxb := dxb }
def sp_Builder_init (CN CB : Addr) : Sp := fun vs H Q _ => ∃ (H0 : Hp) (b dxb : Addr), vs = [.ref b] ∧ H b = some (.ins CB dxb []) ∧ Same H0 H ∧ H0 b = none ∧ ∀ H' s0 e p dx nl, BOk CN CB H0 H' b (bd0 s0 e p dx nl dxb) → Q .non H'
theorem ok_Builder_init {f : Addr} {fd : FuncData} (F : Fun K "__init__" "Builder.__init__" s_Builder_init f fd) (TB : TxtB K CB) (h_Node : HasC P w K mg base CX0 "Node" CN 1 ["self", "index", "size", "pair"] (sp_Node_init CN)) : FnOk P w K mg base CX0 3 f fd ["self"] (sp_Builder_init CN CB) := by
  refine F.ok sc_Builder_init (fun vs H Q E h => ?_) (fun cdv A outer s H vs Q E hr h => ?_)
  · obtain ⟨H0, b, dxb, rfl, _⟩ := h
    rfl
  · obtain ⟨H0, b, dxb, rfl, hb, hs, hb0, hQ⟩ := h
    refine ⟨_, (pss_cons (ps_fld (pv 0) (pe_makeG h_Node (hr.mono (by decide)) (pa_cons pe_int (pa_cons pe_int (pa_cons pe_non pa_nil)))) rfl)
      (pss_one (ps_fld (pv 0) (pe_lst (pa_cons (pe_fld (pv 0) rfl) pa_nil)) rfl))), ?_⟩
    intro x dx nx ndx nex
    have bx : b ≠ x := ne_of_none hb nx
    have bd : b ≠ dx := ne_of_none hb ndx
    refine ⟨x, dx, 0, 0, _, rfl, upd_same, fun H1 e p keep ne np hx he hp => ⟨rfl, ?_⟩⟩
    have hb1 : H1 b = some (.ins CB dxb []) := keep _ _ (by rw [upd_ne bx, upd_ne bd]; exact hb) bx
    refine ⟨_, rfl, b, CB, dxb, _, rfl, hb1, TB.cl, TB.start, (by decide), ?_⟩
    refine ⟨_, rfl, b, CB, dxb, _, _, rfl, upd_same, TB.cl, TB.start, rfl, (by show 1 ≤ sizeLine; decide), fun nl hnl => ?_⟩
    have bnl : b ≠ nl := fun z => by rw [← z, upd_same] at hnl; cases hnl
    refine ⟨_, rfl, b, CB, dxb, _, rfl, (by rw [upd_ne bnl, upd_same]), TB.cl, TB.nodes, (by show 1 < 1000; decide), ?_⟩
    have hnl1 : H1 nl = none := by rw [upd_ne (Ne.symm bnl)] at hnl; exact hnl
    have xb := Ne.symm bx
    have xnl : x ≠ nl := ne_of_none hx hnl1
    have enl : e ≠ nl := ne_of_none he hnl1
    have pnl : p ≠ nl := ne_of_none hp hnl1
    have eb : e ≠ b := fun z => by rw [z, hb1] at he; cases he
    have pb : p ≠ b := fun z => by rw [z, hb1] at hp; cases hp
    have base1 : ∀ c o, H0 c = some o → H1 c = some o := fun c o hc => by
      have n1 : c ≠ x := ne_of_none (hs _ _ hc) nx
      have n2 : c ≠ dx := ne_of_none (hs _ _ hc) ndx
      exact keep _ _ (by rw [upd_ne n1, upd_ne n2]; exact hs _ _ hc) n1
    have f0 : ∀ c, upd (upd H dx (.own x)) x (.ins CN dx []) c = none → H0 c = none := fun c hc => by
      cases q : H0 c with
      | none => rfl
      | some o =>
        have n1 : c ≠ x := ne_of_none (hs _ _ q) nx
        have n2 : c ≠ dx := ne_of_none (hs _ _ q) ndx
        rw [upd_ne n1, upd_ne n2, hs _ _ q] at hc
        cases hc
    have e0 := f0 e ne
    have p0 := f0 p np
    have x0 : H0 x = none := hs.free nx
    have nl0 : H0 nl = none := by
      cases q : H0 nl with
      | none => rfl
      | some o => rw [base1 _ _ q] at hnl1; cases hnl1
    refine hQ _ x e p dx nl ⟨fun i m h => ?_, fun m h => ?_, fun m h => ?_, fun m h => rfl, fun m h => ?_, fun m h m' h' _ => ?_, fun m h m' h' _ => ?_, by simp [bd0], fun c o hc => ?_, upd_same, ?_, ⟨hb0, nl0⟩, by simp [bd0], by show 1 ≤ 5000; decide, fun m h => Nat.zero_le _, fun m h => Nat.zero_le _⟩
    · have h : [x][i]? = some m := h
      cases i with
      | zero =>
        simp at h
        subst h
        rw [upd_ne xb, upd_ne xnl, upd_ne xb]; exact hx
      | succ k => simp at h
    · show upd _ b _ e = some (.dK [])
      rw [upd_ne eb, upd_ne enl, upd_ne eb]; exact he
    · show LT _ p []
      exact ⟨[], by rw [upd_ne pb, upd_ne pnl, upd_ne pb]; exact hp, .nil⟩
    · have : m = x := by simpa [bd0] using h
      subst this
      exact ⟨x0, e0, p0, pnl⟩
    · have q1 : m = x := by simpa [bd0] using h
      have q2 : m' = x := by simpa [bd0] using h'
      rw [q1, q2]
    · have q1 : m = x := by simpa [bd0] using h
      have q2 : m' = x := by simpa [bd0] using h'
      rw [q1, q2]
    · have n1 : c ≠ b := ne_of_none hc hb0
      have n2 : c ≠ nl := ne_of_none hc nl0
      rw [upd_ne n1, upd_ne n2, upd_ne n1]
      exact base1 _ _ hc
    · show upd _ b _ nl = some (.lst [.ref x])
      rw [upd_ne (Ne.symm bnl), upd_same]

abbrev s_Builder_new_node : Stmt := inClass (topS 29) 1
abbrev N_Builder_new_node : List Str := ["self", "size", "pair", "node"]
theorem sc_Builder_new_node : FnScope ["self", "size", "pair", "node"] ["self", "size", "pair"] (defScope s_Builder_new_node) := ⟨rfl, rfl, rfl, by decide +kernel, rfl, by decide +kernel, by decide +kernel⟩
def sp_Builder_new_node (CN CB : Addr) : Sp := fun vs H Q _ => ∃ (H0 : Hp) (b : Addr) (D : BD) (sz : Nat) (v : V) (pr : Option (Int × Nat)), vs = [.ref b, .int (sz : Nat), v] ∧ BOk CN CB H0 H b D ∧ pairV H v pr ∧ D.Vs.length < 5000 ∧
  ∀ H' n e p dx, BOk CN CB H0 H' b (D.add n e p dx v sz pr) → n ∉ D.Vs → (∀ t r, H t = some (.tup r) → H' t = some (.tup r)) → Q (.ref n) H'
theorem ok_Builder_new_node {f : Addr} {fd : FuncData} (F : Fun K "new_node" "Builder.new_node" s_Builder_new_node f fd) (T : Txt mg) (TB : TxtB K CB) (h_Node : HasC P w K mg base CX0 "Node" CN 1 ["self", "index", "size", "pair"] (sp_Node_init CN)) :
    FnOk P w K mg base CX0 3 f fd ["self", "size", "pair"] (sp_Builder_new_node CN CB) := by
  refine F.ok sc_Builder_new_node (fun vs H Q E h => ?_) (fun cdv A outer s H vs Q E hr h => ?_)
  · obtain ⟨H0, b, D, sz, v, pr, rfl, _⟩ := h
    rfl
  · obtain ⟨H0, b, D, sz, v, pr, rfl, B, hv, hl, hQ⟩ := h
    refine ⟨_, (pss_cons (ps_set (i := 3) sc_Builder_new_node.nd rfl (Or.inl rfl) (pe_makeG h_Node (hr.mono (by decide)) (pa_cons (pe_callB (lenQ K) (by rfl) T.len (by decide +kernel) (pa_cons (pe_fld (pv 0) rfl) pa_nil)) (pa_cons (pv 1) (pa_cons (pv 2) pa_nil)))))
      (pss_cons (ps_expr (pe_bm PySem.F.plainAttrs_list PySem.F.slot_list_append PySem.F.type_list_append mt_append (pe_fld (pv 0) rfl) (pa_cons (pv 3) pa_nil)))
      (pss_one (ps_ret (pv 3))))), ?_⟩
    refine ⟨_, rfl, b, CB, D.dxb, _, _, rfl, B.obj, TB.cl, TB.nodes, rfl, D.nl, _, rfl, .inl (SqL.of B.nodes), _, rfl, _, rfl, fun x dx nx ndx nex => ?_⟩
    rw [List.length_map]
    refine ⟨x, dx, D.Vs.length, sz, v, rfl, upd_same, fun H1 e p keep ne np hx he hp => ⟨rfl, ?_⟩⟩
    have s1 : Same H H1 := fun c o hc => by
      have n1 : c ≠ x := ne_of_none hc nx
      have n2 : c ≠ dx := ne_of_none hc ndx
      exact keep _ _ (by rw [upd_ne n1, upd_ne n2]; exact hc) n1
    have f0 : ∀ c, upd (upd H dx (.own x)) x (.ins CN dx []) c = none → H c = none := fun c hc => by
      cases q : H c with
      | none => rfl
      | some o =>
        have n1 : c ≠ x := ne_of_none q nx
        have n2 : c ≠ dx := ne_of_none q ndx
        rw [upd_ne n1, upd_ne n2, q] at hc
        cases hc
    obtain ⟨B2, nV⟩ := B.add (n := x) (e := e) (p := p) (dx := dx) (v := v) (sz := sz) (pr := pr) s1 nx (f0 e ne) (f0 p np) hx he hp (hv.same fun t r h => s1 _ _ h) hl
    have hnl := s1 _ _ B.nodes
    refine ⟨_, rfl, b, CB, D.dxb, _, _, rfl, s1 _ _ B.obj, TB.cl, TB.nodes, rfl, .inl ⟨rfl, _, SqL.of hnl⟩, _, rfl, D.nl, _, _, rfl, rfl, hnl, smallLt (by rw [List.length_map]; omega), ?_⟩
    refine ⟨_, rfl, hQ _ x e p dx B2 nV fun t r ht => ?_⟩
    rw [upd_ne (ne_kind hnl (s1 _ _ ht) (by intro z; cases z))]
    exact s1 _ _ ht
end
end Sfx
end
section
set_option Elab.async false
set_option linter.all false
set_option maxRecDepth 100000
set_option maxHeartbeats 4000000
namespace Sfx
open PySem PySem.Spec L2
/-- the tuples stay -/
def Tups (H H' : Hp) : Prop := ∀ t r, H t = some (.tup r) → H' t = some (.tup r)
theorem Tups.trans {A B C : Hp} (h : Tups A B) (g : Tups B C) : Tups A C := fun t r e => g t r (h t r e)
theorem Tups.upd {A B : Hp} {x : Addr} {o : HO} (h : Tups A B) (n : ∀ r, B x ≠ some (.tup r)) : Tups A (L2.upd B x o) := fun t r e => by
  have h1 := h t r e
  by_cases q : t = x
  · subst q; exact absurd h1 (n r)
  · rw [upd_ne q]; exact h1
structure Grown (D D' : BD) : Prop where
  s0 : D'.s0 = D.s0
  ps : (∀ m ∈ D.Vs, D.ps m = []) → ∀ m ∈ D'.Vs, D'.ps m = []
  sub : ∀ m ∈ D.Vs, m ∈ D'.Vs
theorem Grown.trans {A B C : BD} (h : Grown A B) (g : Grown B C) : Grown A C := ⟨g.s0.trans h.s0, fun q => g.ps (h.ps q), fun m hm => g.sub m (h.sub m hm)⟩
section
variable {CN CB : Addr} {H0 H : Hp} {b : Addr} {D : BD}
theorem BOk.ix (B : BOk CN CB H0 H b D) {i j : Nat} {m n : Addr} (hi : D.Vs[i]? = some m) (hj : D.Vs[j]? = some n) : ((i : Int) = (j : Int)) ↔ m = n := by
  constructor
  · intro e
    have e' : i = j := by omega
    subst e'
    rw [hi] at hj
    exact Option.some.inj hj
  · intro e
    subst e
    have := nd_ix B.nodup hi hj
    omega
end
structure Upd (D D' : BD) : Prop where
  vs : D'.Vs = D.Vs
  s0 : D'.s0 = D.s0
  ps : D'.ps = D.ps
theorem Upd.trans {A B C : BD} (h : Upd A B) (g : Upd B C) : Upd A C := ⟨g.vs.trans h.vs, g.s0.trans h.s0, g.ps.trans h.ps⟩
theorem Upd.grown {A B : BD} (h : Upd A B) : Grown A B := ⟨h.s0, fun q m hm => by rw [h.ps]; exact q m (h.vs ▸ hm), fun m hm => by rw [h.vs]; exact hm⟩
section
variable {CN CB : Addr} {H0 H : Hp} {b : Addr} {D : BD}
theorem BOk.link (B : BOk CN CB H0 H b D) {i0 : Nat} {m : Addr} {lk : Option Nat} (hm : D.Vs[i0]? = some m) :
    ∃ D', BOk CN CB H0 (upd H m (.ins CN (D.dx m) (nf i0 (D.ed m) (lkV lk) (D.nd m).size (D.pl m) (D.pv m) (D.num m)))) b D' ∧ Upd D D' ∧ D'.nd = set D.nd m { D.nd m with link := lk } :=
  ⟨_, B.setI hm (.inl ⟨rfl, rfl⟩), ⟨rfl, rfl, rfl⟩, rfl⟩
theorem BOk.newE (B : BOk CN CB H0 H b D) {i0 : Nat} {m p : Addr} {es : List (Nat × Nat)} (hm : D.Vs[i0]? = some m) (hp : H p = none) (hl : es.length ≤ 5000) :
    ∃ D', BOk CN CB H0 (upd (upd H p (.dK (ekv es))) m (.ins CN (D.dx m) (nf i0 p (lkV (D.nd m).link) (D.nd m).size (D.pl m) (D.pv m) (D.num m)))) b D' ∧ Upd D D' ∧ D'.nd = set D.nd m { D.nd m with edges := es } :=
  ⟨_, (B.new hp).setI hm (.inr ⟨upd_same, B.same.free hp, fun m' h e => (by have := B.edges m' h; rw [e, hp] at this; cases this), hl⟩), ⟨rfl, rfl, rfl⟩, rfl⟩
theorem BOk.putE (B : BOk CN CB H0 H b D) {m c k : Addr} (hm : m ∈ D.Vs) (hl : (aput (D.nd m).edges c k).length ≤ 5000) :
    ∃ D', BOk CN CB H0 (upd H (D.ed m) (.dK (putK (ekv (D.nd m).edges) (Sum.inr (sgn c)) (V.ref k)))) b D' ∧ Upd D D' ∧ D'.nd = set D.nd m { D.nd m with edges := aput (D.nd m).edges c k } := by
  rw [putK_ekv]
  exact ⟨_, B.setE hm hl, ⟨rfl, rfl, rfl⟩, rfl⟩
theorem BOk.setN (B : BOk CN CB H0 H b D) {i0 : Nat} {m : Addr} {nu : Int} (hm : D.Vs[i0]? = some m) :
    ∃ D', BOk CN CB H0 (upd H m (.ins CN (D.dx m) (nf i0 (D.ed m) (lkV (D.nd m).link) (D.nd m).size (D.pl m) (D.pv m) nu))) b D' ∧ Upd D D' ∧ D'.nd = D.nd ∧ D'.num = fun x => if x = m then nu else D.num x :=
  ⟨_, B.setI (lk := (D.nd m).link) hm (.inl ⟨rfl, rfl⟩), ⟨rfl, rfl, rfl⟩, (by funext x; show set D.nd m (D.nd m) x = _; by_cases e : x = m; (subst e; rw [set_same]); (rw [set_ne e])), rfl⟩
end
section
variable {P : Program} {w : World} {K : PySem.W.Frag} {mg : Str → Option Value} {base : Heap} {ec : Nat → Addr} {CN CB : Addr}
abbrev s_Builder_split : Stmt := inClass (topS 29) 2
abbrev N_Builder_split : List Str := ["self", "node", "letter", "after", "twin"]
theorem sc_Builder_split : FnScope ["self", "node", "letter", "after", "twin"] ["self", "node", "letter"] (defScope s_Builder_split) := ⟨rfl, rfl, rfl, by decide +kernel, rfl, by decide +kernel, by decide +kernel⟩
def sp_Builder_split (CN CB : Addr) : Sp := fun vs H Q _ => ∃ (H0 : Hp) (b : Addr) (D : BD) (hole : Option Nat) (F S : W → Prop) (hs : List (Int × W)) (U : List Nat) (lab : Nat → W) (i j c : Nat),
  vs = [.ref b, .ref i, .str (sgn c)] ∧ BOk CN CB H0 H b D ∧ Aut hole F S D.s0 U D.nd lab ∧ Good F S ∧ i ∈ U ∧ look (D.nd i).edges c = some j ∧ hole ≠ some j ∧ (∀ m, m ∈ D.Vs ↔ m ∈ U ∨ hole = some m) ∧ D.Vs.length < 5000 ∧
  ∀ H' D' U' lab' t, BOk CN CB H0 H' b D' → SplitOut hole F S hs D.s0 U D.nd lab (lab i ++ [c]) U' D'.nd lab' t → Grown D D' → (∀ m, m ∈ D'.Vs ↔ m ∈ U' ∨ hole = some m) → D'.Vs.length ≤ D.Vs.length + 1 → Tups H H' → Q (.ref t) H'
theorem ok_Builder_split {f : Addr} {fd : FuncData} (F : Fun K "split" "Builder.split" s_Builder_split f fd) (T : Txt mg) (TB : TxtB K CB) (TN : TxtN K CN) (h_Builder_new_node : HasM P w K mg base CX0 CB "new_node" 3 ["self", "size", "pair"] (sp_Builder_new_node CN CB)) :
    FnOk P w K mg base CX0 4 f fd ["self", "node", "letter"] (sp_Builder_split CN CB) := by
  refine F.ok sc_Builder_split (fun vs H Q E h => ?_) (fun cdv A outer s H vs Q E hr h => ?_)
  · obtain ⟨H0, b, D, hole, F, S, hs, U, lab, i, j, c, rfl, _⟩ := h
    rfl
  · obtain ⟨H0, b, D, hole, F, S, hs, U, lab, i, j, c, rfl, B, A, G, hi, hj, hh, hV, hl, hQ⟩ := h
    have hu := hu_of hr
    refine ⟨_, (pss_cons (ps_set (i := 3) sc_Builder_split.nd rfl (Or.inl rfl) (pe_dget hu (pe_fld (pv 1) rfl) (pv 2) (fun _ _ => rfl)))
      (pss_cons (ps_if (pt_cmpR op_eq (pe_fld (pv 3) rfl) (pe_op op_add (pe_fld (pv 1) rfl) pe_int) (nomark _))
      (pss_one (ps_ret (pv 3)))
      pss_nil)
      (pss_cons (ps_set (i := 4) sc_Builder_split.nd rfl (Or.inl rfl) (pe_methG (pv 0) h_Builder_new_node (hr.mono (by decide)) p0 (pa_cons (pe_op op_add (pe_fld (pv 1) rfl) pe_int) (pa_cons (pe_fld (pv 3) rfl) pa_nil))))
      (pss_cons (ps_fld (pv 4) (pe_callTy call_dictD (by rfl) T.dict (by decide +kernel) (pa_cons (pe_fld (pv 3) rfl) pa_nil)) rfl)
      (pss_cons (ps_fld (pv 4) (pe_fld (pv 3) rfl) rfl)
      (pss_cons (ps_fld (pv 3) (pv 4) rfl)
      (pss_cons (ps_while PassesOwn.never (PW.pt (pw_and (pt_cmpR op_notN (pv 1) pe_non (nomark _)) (pw_and1 (pt_cmpR op_eq (pe_fld (pe_dget hu (pe_fld (pv 1) rfl) (pv 2) (fun _ _ => rfl)) rfl) (pe_fld (pv 3) rfl) (nomark _)))))
      (pss_cons (ps_dput hu (pe_fld (pv 1) rfl) (pv 2) (pv 4) rfl)
      (pss_one (ps_set (i := 1) sc_Builder_split.nd rfl (Or.inl rfl) (pe_fld (pv 1) rfl)))))
      (pss_one (ps_ret (pv 4)))))))))), ?_⟩
    have iV : i ∈ D.Vs := (hV i).mpr (.inl hi)
    have jU : j ∈ U := (A.edge i hi c j hj hh).1
    have jV : j ∈ D.Vs := (hV j).mpr (.inl jU)
    obtain ⟨ii, hii, hI⟩ := B.at iV
    obtain ⟨ij, hij, hJ⟩ := B.at jV
    refine ⟨_, rfl, i, CN, _, _, _, rfl, hI, TN.cl, TN.edges, rfl, _, rfl, D.ed i, V.ref j, rfl, .inl ⟨_, .inr (sgn c), .inl (B.edges i iV), rfl, by rw [valV_ekv, hj]; rfl⟩, ?_⟩
    refine ⟨_, rfl, j, CN, _, _, _, rfl, hJ, TN.cl, TN.size, rfl, _, rfl, i, CN, _, _, _, rfl, hI, TN.cl, TN.size, rfl, ?_⟩
    refine ⟨_, _, rfl, rfl, rfl, _, rfl, ?_⟩
    by_cases hsz : (D.nd j).size = (D.nd i).size + 1
    · refine if_pos_of (by rw [hsz]; simp) ⟨_, rfl, hQ H D U lab j B (split_same A hi hj hh hsz) ⟨rfl, fun h => h, fun _ h => h⟩ hV (Nat.le_succ _) fun _ _ h => h⟩
    refine if_neg_of (by simp only [decide_eq_true_eq]; intro e; injection e with e; omega) ?_
    refine ⟨_, rfl, b, D.dxb, _, rfl, B.obj, rfl, ?_⟩
    refine ⟨_, rfl, i, CN, _, _, _, rfl, hI, TN.cl, TN.size, rfl, _, _, rfl, rfl, ?_⟩
    refine ⟨_, rfl, j, CN, _, _, _, rfl, hJ, TN.cl, TN.pair, rfl, ?_⟩
    refine ⟨H0, b, D, (D.nd i).size + 1, D.pv j, (D.nd j).pair, rfl, B, B.pair j jV, hl, fun H1 t e p dx B1 tV K1 => ?_⟩
    have tU : t ∉ U := fun h => tV ((hV t).mpr (.inl h))
    have tj : t ≠ j := fun e => tV (e ▸ jV)
    have hht : hole ≠ some t := fun e => tV ((hV t).mpr (.inr e))
    have TT : CanSplit hole F S D.s0 U D.nd lab i j c t := ⟨A, G, hi, hj, hh, tU, hht, hsz⟩
    generalize eD1 : D.add t e p dx (D.pv j) ((D.nd i).size + 1) (D.nd j).pair = D1 at B1
    have v1 : D1.Vs = D.Vs ++ [t] := by rw [← eD1]; rfl
    have n1 : D1.nd = set D.nd t { edges := [], link := none, size := (D.nd i).size + 1, pair := (D.nd j).pair } := by rw [← eD1]; rfl
    have gr1 : Grown D D1 := ⟨by rw [← eD1]; rfl, fun q m hm => by
      rw [← eD1]
      show (if m = t then [] else D.ps m) = []
      by_cases em : m = t
      · rw [if_pos em]
      · rw [if_neg em]
        rw [v1] at hm
        rcases List.mem_append.mp hm with hm | hm
        · exact q m hm
        · exact absurd (by simpa using hm) em, fun m hm => by rw [v1]; exact List.mem_append_left _ hm⟩
    clear eD1
    have tV1 : t ∈ D1.Vs := by rw [v1]; simp
    have jV1 : j ∈ D1.Vs := by rw [v1]; exact List.mem_append_left _ jV
    -- twin.edges = dict(after.edges)
    obtain ⟨it, hit, hT1⟩ := B1.at tV1
    obtain ⟨ij1, hij1, hJ1⟩ := B1.at jV1
    have ej : (D1.nd j) = D.nd j := by rw [n1]; exact set_ne (Ne.symm tj)
    refine ⟨_, rfl, j, CN, _, _, _, rfl, hJ1, TN.cl, TN.edges, rfl, D1.ed j, _, rfl, .inl (B1.edges j jV1), fun q hq => ?_⟩
    obtain ⟨D2, B2, U2, n2⟩ := B1.newE hit hq (B1.elen j jV1)
    have tq : t ≠ q := fun z => by rw [z, hq] at hT1; cases hT1
    refine ⟨_, rfl, t, CN, _, _, rfl, (by rw [upd_ne tq]; exact hT1), TN.cl, TN.edges, (by show 7 < 1000; decide), ?_⟩
    -- twin.link = after.link
    have tV2 : t ∈ D2.Vs := by rw [U2.vs]; exact tV1
    have jV2 : j ∈ D2.Vs := by rw [U2.vs]; exact jV1
    obtain ⟨jt2, hjt2, hT2⟩ := B2.at tV2
    obtain ⟨ij2, hij2, hJ2⟩ := B2.at jV2
    refine ⟨_, rfl, j, CN, _, _, _, rfl, hJ2, TN.cl, TN.link, rfl, ?_⟩
    obtain ⟨D3, B3, U3, n3⟩ := B2.link (lk := (D2.nd j).link) hjt2
    refine ⟨_, rfl, t, CN, _, _, rfl, hT2, TN.cl, TN.link, (by show 7 < 1000; decide), ?_⟩
    -- after.link = twin
    have jV3 : j ∈ D3.Vs := by rw [U3.vs]; exact jV2
    obtain ⟨ij3, hij3, hJ3⟩ := B3.at jV3
    obtain ⟨D4, B4, U4, n4⟩ := B3.link (lk := some t) hij3
    refine ⟨_, rfl, _, rfl, j, CN, _, _, rfl, hJ3, TN.cl, TN.link, (by show 7 < 1000; decide), ?_⟩
    have e4 : D4.nd = twin D.nd i j t := twin_stores tj _ rfl D1.nd D2.nd D3.nd D4.nd n1 (by
      have h0 : (D1.nd t).link = none := by rw [n1, set_same]
      rw [n2, ej]
      simp only [h0]) (by
      have : D2.nd j = D1.nd j := by rw [n2]; exact set_ne (Ne.symm tj)
      rw [n3, this, ej]) n4
    have U14 := (U2.trans U3).trans U4
    have K4 : Tups H1 (upd (upd (upd (upd H1 q (.dK (ekv (D1.nd j).edges))) t (.ins CN (D1.dx t) (nf it q (lkV (D1.nd t).link) (D1.nd t).size (D1.pl t) (D1.pv t) (D1.num t)))) t (.ins CN (D2.dx t) (nf jt2 (D2.ed t) (lkV (D2.nd j).link) (D2.nd t).size (D2.pl t) (D2.pv t) (D2.num t)))) j (.ins CN (D3.dx j) (nf ij3 (D3.ed j) (lkV (some t)) (D3.nd j).size (D3.pl j) (D3.pv j) (D3.num j)))) :=
      (((Tups.upd (fun _ _ h => h) fun r => by rw [hq]; intro z; cases z).upd fun r => by rw [upd_ne tq, hT1]; intro z; cases z).upd fun r => by rw [hT2]; intro z; cases z).upd fun r => by rw [hJ3]; intro z; cases z
    have K04 := Tups.trans K1 K4
    refine ⟨fun m σ H' => ∃ cur D5, σ = [some (.ref b), some (lkV cur), some (.str (sgn c)), some (.ref j), some (.ref t)] ∧ BOk CN CB H0 H' b D5 ∧ Upd D1 D5 ∧ Turning lab U (twin D.nd i j t) i j c t cur D5.nd ∧ Tups H H' ∧ m = (match cur with | none => 0 | some x => (lab x).length + 1),
      ⟨_, some i, D4, rfl, B4, U14, (by rw [e4]; exact turning_start A hi), K04, rfl⟩, ?_⟩
    rintro m σ H5 ⟨cur, D5, rfl, B5, U5, R5, K5, rfl⟩
    have fin : (∀ x, cur = some x → look (D.nd x).edges c ≠ some j) → Q (.ref t) H5 := fun h => by
      have so := split_out (hs := hs) TT (TT.done R5 h)
      refine hQ H5 D5 _ _ t B5 so (gr1.trans U5.grown) (fun m => ?_) (by rw [U5.vs, v1]; simp) K5
      rw [U5.vs, v1]
      simp only [List.mem_append, List.mem_singleton, hV m]
      constructor
      · rintro ((h | h) | h)
        · exact .inl (.inl h)
        · exact .inr h
        · exact .inl (.inr h)
      · rintro ((h | h) | h)
        · exact .inl (.inl h)
        · exact .inr h
        · exact .inl (.inr h)
    cases cur with
    | none =>
      refine ⟨_, rfl, rfl, _, rfl, if_neg_of (by simp [lkV]) ?_⟩
      refine ⟨_, rfl, fin fun x h => by cases h⟩
    | some x =>
      obtain ⟨x0, xU, xs, xj, xt, k, k1, k2, k3⟩ := TT.atCur R5
      have inV : ∀ m ∈ U, m ∈ D5.Vs := fun m hm => by rw [U5.vs, v1]; exact List.mem_append_left _ ((hV m).mpr (.inl hm))
      have xV := inV x xU
      obtain ⟨ix, hix, hX⟩ := B5.at xV
      obtain ⟨ik, hik, hK⟩ := B5.at (inV k k3)
      obtain ⟨ij5, hij5, hJ5⟩ := B5.at (inV j jU)
      refine ⟨_, rfl, rfl, _, rfl, if_pos_of (by simp [lkV]) ?_⟩
      refine ⟨_, rfl, x, CN, _, _, _, rfl, hX, TN.cl, TN.edges, rfl, _, rfl, D5.ed x, V.ref k, rfl, .inl ⟨_, .inr (sgn c), .inl (B5.edges x xV), rfl, by rw [valV_ekv, x0, k1]; rfl⟩, ?_⟩
      refine ⟨k, CN, _, _, _, rfl, hK, TN.cl, TN.index, rfl, ?_⟩
      refine ⟨_, rfl, j, CN, _, _, _, rfl, hJ5, TN.cl, TN.index, rfl, rfl, _, rfl, ?_⟩
      by_cases hkj : k = j
      · subst hkj
        refine if_pos_of (by simp [B5.ix hik hij5]) ⟨_, fun _ _ h => h, ?_⟩
        have hl5 : (aput (D5.nd x).edges c t).length ≤ 5000 := by
          rw [aput_len_there (j := k) (by rw [x0]; exact k1)]
          exact B5.elen x xV
        obtain ⟨D6, B6, U6, n6⟩ := B5.putE (c := c) (k := t) xV hl5
        refine ⟨_, rfl, _, rfl, x, CN, _, _, _, rfl, hX, TN.cl, TN.edges, rfl, _, rfl, _, _, rfl, .inl ⟨_, .inr (sgn c), B5.edges x xV, rfl, ?_, rfl⟩, ?_⟩
        · show (List.map _ _).length < sizeLine
          rw [List.length_map]
          have := B5.elen x xV
          exact Nat.lt_of_le_of_lt this (by decide)
        obtain ⟨ix6, hix6, hX6⟩ := B6.at (m := x) (by rw [U6.vs]; exact xV)
        refine ⟨_, rfl, x, CN, _, _, _, rfl, hX6, TN.cl, TN.link, rfl, ?_⟩
        have r6 := TT.turn R5 k1
        have e6 : (D6.nd x).link = (D.nd x).link := by rw [n6, set_same, x0]
        refine ⟨_, ?_, (D.nd x).link, D6, by rw [e6]; rfl, B6, U5.trans U6, by rw [n6, x0]; exact r6, (K5.upd fun r => by rw [B5.edges x xV]; exact fun z => nomatch z), rfl⟩
        cases hlk : (D.nd x).link with
        | none => exact Nat.succ_pos _
        | some y =>
          obtain ⟨_, q1, q2, _⟩ := A.link x xU y hlk
          exact Nat.succ_lt_succ (suf_len_lt q1 q2)
      · refine if_neg_of (by simp [B5.ix hik hij5, hkj]) ?_
        exact ⟨_, rfl, fin fun y e => by cases e; rw [k1]; intro z; cases z; exact hkj rfl⟩
end
end Sfx
end
section
set_option Elab.async false
set_option linter.all false
set_option maxRecDepth 100000
set_option maxHeartbeats 4000000
namespace Sfx
open PySem PySem.Spec L2
section
variable {P : Program} {w : World} {K : PySem.W.Frag} {mg : Str → Option Value} {base : Heap} {ec : Nat → Addr} {CN CB : Addr}
abbrev s_Builder_step : Stmt := inClass (topS 29) 3
abbrev N_Builder_step : List Str := ["self", "last", "letter", "pair", "node"]
theorem sc_Builder_step : FnScope ["self", "last", "letter", "pair", "node"] ["self", "last", "letter", "pair"] (defScope s_Builder_step) := ⟨rfl, rfl, rfl, by decide +kernel, rfl, by decide +kernel, by decide +kernel⟩
def sp_Builder_step (CN CB : Addr) : Sp := fun vs H Q _ => ∃ (H0 : Hp) (b : Addr) (D : BD) (hs : List (Int × W)) (R : List W) (p : W) (c : Nat) (lab : Nat → W) (l : Nat) (v : V) (pr : Option (Int × Nat)),
  vs = [.ref b, .ref l, .str (sgn c), v] ∧ BOk CN CB H0 H b D ∧ BInv hs (R ++ [p]) D.s0 D.Vs D.nd lab ∧ l ∈ D.Vs ∧ lab l = p ∧ pairV H v pr ∧ PairAt hs (p ++ [c]) pr ∧ (∀ x d, Fac (R ++ [p]) (x ++ [d]) → d < 200) ∧ D.Vs.length + 2 ≤ 5000 ∧
  ∀ H' D' lab' t, BOk CN CB H0 H' b D' → BInv hs (R ++ [p ++ [c]]) D.s0 D'.Vs D'.nd lab' → t ∈ D'.Vs → lab' t = p ++ [c] → Grown D D' → D'.Vs.length ≤ D.Vs.length + 2 → Tups H H' → Q (.ref t) H'
theorem ok_Builder_step {f : Addr} {fd : FuncData} (F : Fun K "step" "Builder.step" s_Builder_step f fd) (T : Txt mg) (TB : TxtB K CB) (TN : TxtN K CN) (h_Builder_new_node : HasM P w K mg base CX0 CB "new_node" 3 ["self", "size", "pair"] (sp_Builder_new_node CN CB))
    (h_Builder_split : HasM P w K mg base CX0 CB "split" 4 ["self", "node", "letter"] (sp_Builder_split CN CB)) :
    FnOk P w K mg base CX0 5 f fd ["self", "last", "letter", "pair"] (sp_Builder_step CN CB) := by
  refine F.ok sc_Builder_step (fun vs H Q E h => ?_) (fun cdv A outer s H vs Q E hr h => ?_)
  · obtain ⟨H0, b, D, hs, R, p, c, lab, l, v, pr, rfl, _⟩ := h
    rfl
  · obtain ⟨H0, b, D, hs, R, p, c, lab, l, v, pr, rfl, B, I, hl, el, hv, hp, al, hn, hQ⟩ := h
    have hu := hu_of hr
    refine ⟨_, (pss_cons (ps_if (pt_cmp (pc_din hu (pv 2) (pe_fld (pv 1) rfl)))
      (pss_one (ps_ret (pe_methG (pv 0) h_Builder_split (hr.mono (by decide)) p0 (pa_cons (pv 1) (pa_cons (pv 2) pa_nil)))))
      pss_nil)
      (pss_cons (ps_set (i := 4) sc_Builder_step.nd rfl (Or.inl rfl) (pe_methG (pv 0) h_Builder_new_node (hr.mono (by decide)) p0 (pa_cons (pe_op op_add (pe_fld (pv 1) rfl) pe_int) (pa_cons (pv 3) pa_nil))))
      (pss_cons (ps_while PassesOwn.never (PW.pt (pw_and (pt_cmpR op_notN (pv 1) pe_non (nomark _)) (pw_and1 (pt_cmp (pc_dnotin hu (pv 2) (pe_fld (pv 1) rfl))))))
      (pss_cons (ps_dput hu (pe_fld (pv 1) rfl) (pv 2) (pv 4) rfl)
      (pss_one (ps_set (i := 1) sc_Builder_step.nd rfl (Or.inl rfl) (pe_fld (pv 1) rfl)))))
      (pss_cons (ps_if (pt_cmpR op_isN (pv 1) pe_non (nomark _))
      (pss_one (ps_fld (pv 4) (pe_fld (pv 0) rfl) rfl))
      (pss_one (ps_fld (pv 4) (pe_methG (pv 0) h_Builder_split (hr.mono (by decide)) p0 (pa_cons (pv 1) (pa_cons (pv 2) pa_nil))) rfl)))
      (pss_one (ps_ret (pv 4))))))), ?_⟩
    obtain ⟨il, hil, hL⟩ := B.at hl
    refine ⟨_, rfl, _, rfl, l, CN, _, _, _, rfl, hL, TN.cl, TN.edges, rfl, D.ed l, _, rfl, .inl ⟨_, .inr (sgn c), .inl (B.edges l hl), rfl, rfl⟩, _, rfl, ?_⟩
    rw [valV_ekv]
    cases hlk : look (D.nd l).edges c with
    | some j =>
      refine if_pos_of rfl ?_
      refine ⟨_, rfl, b, D.dxb, _, rfl, B.obj, rfl, _, rfl, _, rfl, ?_⟩
      refine ⟨H0, b, D, none, _, _, hs, D.Vs, lab, l, j, c, rfl, B, I.A, good ne_app, hl, hlk, (fun z => nomatch z), fun m => by simp, by omega, fun H' D' U' lab' t B' so gr hV hlen K => ?_⟩
      obtain ⟨I', lt, tU⟩ := step_old I hl el hlk so
      exact hQ H' D' lab' t B' (I'.mem fun m => by rw [hV m]; simp) ((hV t).mpr (.inl tU)) lt gr (by omega) K
    | none =>
      refine if_neg_of (by simp) ?_
      refine ⟨_, rfl, b, D.dxb, _, rfl, B.obj, rfl, ?_⟩
      refine ⟨_, rfl, l, CN, _, _, _, rfl, hL, TN.cl, TN.size, rfl, _, _, rfl, rfl, _, rfl, ?_⟩
      refine ⟨H0, b, D, (D.nd l).size + 1, v, pr, rfl, B, hv, by omega, fun H1 N e q dx B1 NV K1 => ?_⟩
      have TT : CanAdd (Fac (R ++ [p])) (Can (R ++ [p])) D.s0 D.Vs D.nd lab l c N := ⟨I.A, good ne_app, hl, hlk, NV⟩
      have few := edges_few I.A al
      generalize eD1 : D.add N e q dx v ((D.nd l).size + 1) pr = D1 at B1
      have v1 : D1.Vs = D.Vs ++ [N] := by rw [← eD1]; rfl
      have n1 : D1.nd = fresh D.nd N ((D.nd l).size + 1) pr := by rw [← eD1]; rfl
      have s1 : D1.s0 = D.s0 := by rw [← eD1]; rfl
      have gr1 : Grown D D1 := ⟨s1, fun q m hm => by
        rw [← eD1]
        show (if m = N then [] else D.ps m) = []
        by_cases em : m = N
        · rw [if_pos em]
        · rw [if_neg em]
          rw [v1] at hm
          rcases List.mem_append.mp hm with hm | hm
          · exact q m hm
          · exact absurd (by simpa using hm) em, fun m hm => by rw [v1]; exact List.mem_append_left _ hm⟩
      clear eD1
      refine ⟨fun m σ H' => ∃ cur D5, σ = [some (.ref b), some (lkV cur), some (.str (sgn c)), some v, some (.ref N)] ∧ BOk CN CB H0 H' b D5 ∧ Upd D1 D5 ∧ Laying lab D.Vs (fresh D.nd N ((D.nd l).size + 1) pr) (lab l) c N cur D5.nd ∧ Tups H H' ∧ m = (match cur with | none => 0 | some x => (lab x).length + 1),
        ⟨_, some l, D1, rfl, B1, ⟨rfl, rfl, rfl⟩, (by rw [n1]; exact TT.start), K1, rfl⟩, ?_⟩
      rintro m σ H5 ⟨cur, D5, rfl, B5, U5, R5, K5, rfl⟩
      have inV : ∀ m ∈ D.Vs, m ∈ D5.Vs := fun m hm => by rw [U5.vs, v1]; exact List.mem_append_left _ hm
      have NV5 : N ∈ D5.Vs := by rw [U5.vs, v1]; simp
      cases cur with
      | none =>
        refine ⟨_, rfl, rfl, _, rfl, if_neg_of (by simp [lkV]) ?_⟩
        refine ⟨_, rfl, rfl, _, rfl, if_pos_of (by simp [lkV]) ?_⟩
        refine ⟨_, rfl, b, CB, D5.dxb, _, _, rfl, B5.obj, TB.cl, TB.start, rfl, ?_⟩
        obtain ⟨iN, hiN, hN⟩ := B5.at NV5
        obtain ⟨D6, B6, U6, n6⟩ := B5.link (lk := some D5.s0) hiN
        refine ⟨_, rfl, N, CN, _, _, rfl, hN, TN.cl, TN.link, (by show 7 < 1000; decide), ?_⟩
        have I6 := step_none I hl el hlk NV rfl hp R5
        refine ⟨_, rfl, hQ _ D6 (setL lab N (p ++ [c])) N B6 ?_ (by rw [U6.vs]; exact NV5) setL_same ?_ ?_ (K5.upd fun r => by rw [hN]; exact fun z => nomatch z)⟩
        · rw [n6, U5.s0, s1, U6.vs, U5.vs, v1]
          exact I6
        · exact gr1.trans (U5.trans U6).grown
        · rw [U6.vs, U5.vs, v1]; simp
      | some x =>
        obtain ⟨x0, xU, xs, xN⟩ := TT.atCur R5
        have xV := inV x xU
        obtain ⟨ix, hix, hX⟩ := B5.at xV
        refine ⟨_, rfl, rfl, _, rfl, if_pos_of (by simp [lkV]) ?_⟩
        refine ⟨_, rfl, _, rfl, x, CN, _, _, _, rfl, hX, TN.cl, TN.edges, rfl, D5.ed x, _, rfl, .inl ⟨_, .inr (sgn c), .inl (B5.edges x xV), rfl, rfl⟩, _, rfl, ?_⟩
        rw [valV_ekv, x0]
        cases hxk : look (D.nd x).edges c with
        | none =>
          refine if_pos_of rfl ⟨_, fun _ _ h => h, ?_⟩
          have hl5 : (aput (D5.nd x).edges c N).length ≤ 5000 := by
            have h1 := aput_len (es := (D5.nd x).edges) (c := c) (k := N)
            rw [x0] at h1 ⊢
            have := few x xU
            omega
          obtain ⟨D6, B6, U6, n6⟩ := B5.putE (c := c) (k := N) xV hl5
          refine ⟨_, rfl, _, rfl, x, CN, _, _, _, rfl, hX, TN.cl, TN.edges, rfl, _, rfl, _, _, rfl, .inl ⟨_, .inr (sgn c), B5.edges x xV, rfl, ?_, rfl⟩, ?_⟩
          · show (List.map _ _).length < sizeLine
            rw [List.length_map]
            have := B5.elen x xV
            exact Nat.lt_of_le_of_lt this (by decide)
          obtain ⟨ix6, hix6, hX6⟩ := B6.at (m := x) (by rw [U6.vs]; exact xV)
          refine ⟨_, rfl, x, CN, _, _, _, rfl, hX6, TN.cl, TN.link, rfl, ?_⟩
          have r6 := TT.turn R5 hxk
          have e6 : (D6.nd x).link = (D.nd x).link := by rw [n6, set_same, x0]
          refine ⟨_, ?_, (D.nd x).link, D6, by rw [e6]; rfl, B6, U5.trans U6, by rw [n6, x0]; exact r6, (K5.upd fun r => by rw [B5.edges x xV]; exact fun z => nomatch z), rfl⟩
          cases hlk : (D.nd x).link with
          | none => exact Nat.succ_pos _
          | some y =>
            obtain ⟨_, q1, q2, _⟩ := I.A.link x xU y hlk
            exact Nat.succ_lt_succ (suf_len_lt q1 q2)
        | some j =>
          refine if_neg_of (by simp) ?_
          refine ⟨_, rfl, rfl, _, rfl, if_neg_of (by simp [lkV]) ?_⟩
          refine ⟨_, rfl, b, D5.dxb, _, rfl, B5.obj, rfl, _, rfl, _, rfl, ?_⟩
          obtain ⟨q1, q2, _⟩ := TT.laid R5 (fun y h => by cases h; rw [hxk]; exact fun z => nomatch z)
          have jU : j ∈ D.Vs := (I.A.edge x xU c j hxk (fun z => nomatch z)).1
          refine ⟨H0, b, D5, some N, _, _, hs, D.Vs, lab, x, j, c, rfl, B5, (by rw [U5.s0, s1]; exact q1.A), good ne_app, xU, (by rw [x0]; exact hxk), (fun z => by cases z; exact NV jU), fun m => ?_, ?_, fun H' D' U' lab' t B' so gr hV hlen K => ?_⟩
          · rw [U5.vs, v1]
            simp only [List.mem_append, List.mem_singleton, Option.some.injEq]
            constructor
            · rintro (h | h)
              · exact .inl h
              · exact .inr h.symm
            · rintro (h | h)
              · exact .inl h
              · exact .inr h.symm
          · rw [U5.vs, v1, List.length_append]
            show D.Vs.length + 1 < 5000
            omega
          · rw [U5.s0, s1] at so
            obtain ⟨I', NU⟩ := step_some I hl el hlk NV rfl hp R5 (by rw [hxk]; exact fun z => nomatch z) so
            have NV' : N ∈ D'.Vs := (hV N).mpr (.inr rfl)
            obtain ⟨iN, hiN, hN⟩ := B'.at NV'
            obtain ⟨D6, B6, U6, n6⟩ := B'.link (lk := some t) hiN
            refine ⟨_, rfl, N, CN, _, _, rfl, hN, TN.cl, TN.link, (by show 7 < 1000; decide), ?_⟩
            refine ⟨_, rfl, hQ _ D6 (setL lab' N (p ++ [c])) N B6 ?_ (by rw [U6.vs]; exact NV') setL_same ((gr1.trans U5.grown).trans (gr.trans U6.grown)) ?_ ((K5.trans K).upd fun r => by rw [hN]; exact fun z => nomatch z)⟩
            · rw [n6]
              refine I'.mem fun m => ?_
              rw [U6.vs, hV m]
              simp only [List.mem_append, List.mem_singleton, Option.some.injEq]
              constructor
              · rintro (h | h)
                · exact .inl h
                · exact .inr h.symm
              · rintro (h | h)
                · exact .inl h
                · exact .inr h.symm
            · rw [U6.vs]
              rw [U5.vs, v1, List.length_append] at hlen
              have : D'.Vs.length ≤ D.Vs.length + 1 + 1 := hlen
              omega
end
end Sfx
end
section
set_option Elab.async false
set_option linter.all false
set_option maxRecDepth 100000
set_option maxHeartbeats 4000000
namespace Sfx
open PySem PySem.Spec L2
/-- the words' letters -/
def Al (Ds : List W) : Prop := ∀ t ∈ Ds, ∀ c ∈ t, c < 200
theorem Al.fac {Ds : List W} (h : Al Ds) {x : W} {d : Nat} (f : Fac Ds (x ++ [d])) : d < 200 := by
  obtain ⟨t, ht, e, o⟩ := f
  refine h t ht d ?_
  exact List.mem_of_mem_take (o.2.subset (by simp))
theorem take_al {Ds : List W} {z : W} {k : Nat} (h : Al Ds) (g : ∀ c ∈ z, c < 200) : Al (Ds ++ [z.take k]) := fun t ht c hc => by
  rcases List.mem_append.mp ht with ht | ht
  · exact h t ht c hc
  · have : t = z.take k := by simpa using ht
    subst this
    exact g c (List.mem_of_mem_take hc)
theorem BInv.start {hs : List (Int × W)} {Ds : List W} {s0 : Nat} {V : List Nat} {nd : Nat → Nd} {lab : Nat → W} (B : BInv hs Ds s0 V nd lab) (h : [] ∈ Ds) : BInv hs (Ds ++ [[]]) s0 V nd lab :=
  ⟨B.A.congr (fun _ => fac_empty h) (fun _ => can_empty h), B.prs, B.s0p⟩
theorem pairAt_take {hs : List (Int × W)} {n : Int} {z : W} {k c : Nat} (h : (n, z) ∈ hs) (hc : z[k]? = some c) : PairAt hs (z.take k ++ [c]) (some (n, k + 1)) := by
  have hk : k < z.length := by
    rcases Nat.lt_or_ge k z.length with q | q
    · exact q
    · rw [List.getElem?_eq_none q] at hc; cases hc
  refine ⟨n, k + 1, z, rfl, h, hk, ?_⟩
  rw [take_snoc hc]
  exact List.suffix_refl _
section
variable {P : Program} {w : World} {K : PySem.W.Frag} {mg : Str → Option Value} {base : Heap} {ec : Nat → Addr} {CN CB : Addr}
abbrev s_Builder_add_text : Stmt := inClass (topS 29) 4
abbrev N_Builder_add_text : List Str := ["self", "number", "text", "last", "k"]
theorem sc_Builder_add_text : FnScope ["self", "number", "text", "last", "k"] ["self", "number", "text"] (defScope s_Builder_add_text) := ⟨rfl, rfl, rfl, by decide +kernel, rfl, by decide +kernel, by decide +kernel⟩
def sp_Builder_add_text (CN CB : Addr) : Sp := fun vs H Q _ => ∃ (H0 : Hp) (b : Addr) (D : BD) (hs : List (Int × W)) (Ds : List W) (lab : Nat → W) (n : Int) (z : Str),
  vs = [.ref b, .int n, .str z] ∧ BOk CN CB H0 H b D ∧ BInv hs Ds D.s0 D.Vs D.nd lab ∧ [] ∈ Ds ∧ (n, z.cps.toList) ∈ hs ∧ Al Ds ∧ (∀ c ∈ z.cps.toList, c < 200) ∧ strLen z ≤ 1000 ∧ D.Vs.length + 2 * strLen z ≤ 5000 ∧
  ∀ H' D' lab', BOk CN CB H0 H' b D' → BInv hs (Ds ++ [z.cps.toList]) D.s0 D'.Vs D'.nd lab' → Grown D D' → D'.Vs.length ≤ D.Vs.length + 2 * strLen z → Tups H H' → Q .non H'
theorem ok_Builder_add_text {f : Addr} {fd : FuncData} (F : Fun K "add_text" "Builder.add_text" s_Builder_add_text f fd) (T : Txt mg) (TB : TxtB K CB)
    (h_Builder_step : HasM P w K mg base CX0 CB "step" 5 ["self", "last", "letter", "pair"] (sp_Builder_step CN CB)) :
    FnOk P w K mg base CX0 6 f fd ["self", "number", "text"] (sp_Builder_add_text CN CB) := by
  refine F.ok sc_Builder_add_text (fun vs H Q E h => ?_) (fun cdv A outer s H vs Q E hr h => ?_)
  · obtain ⟨H0, b, D, hs, Ds, lab, n, z, rfl, _⟩ := h
    rfl
  · obtain ⟨H0, b, D, hs, Ds, lab, n, z, rfl, B, I, h0, hm, al, hz, hzl, hn, hQ⟩ := h
    refine ⟨_, (pss_cons (ps_set (i := 3) sc_Builder_add_text.nd rfl (Or.inl rfl) (pe_fld (pv 0) rfl))
      (pss_one (ps_for PassesOwn.never rfl (pi_range1 rfl T.range (pa_cons (pe_callB call_len_str (by rfl) T.len (by decide +kernel) (pa_cons (pv 2) pa_nil)) pa_nil)) (pg_name (i := 4) sc_Builder_add_text.nd rfl (Or.inl rfl))
      (pss_one (ps_set (i := 3) sc_Builder_add_text.nd rfl (Or.inl rfl) (pe_methG (pv 0) h_Builder_step (hr.mono (by decide)) p0 (pa_cons (pv 3) (pa_cons (pe_ix ix_str (pv 2) (pv 4) (fun _ _ => rfl)) (pa_cons (pe_tup (pa_cons (pv 1) (pa_cons (pe_op op_add (pv 4) pe_int) pa_nil))) pa_nil))))))))), ?_⟩
    refine ⟨_, rfl, b, CB, _, _, _, rfl, B.obj, TB.cl, TB.start, rfl, ?_⟩
    refine ⟨_, rfl, z, rfl, small (by show strLen z ≤ _; omega), _, rfl, by show _ ≤ ((strLen z : Nat) : Int); omega, by show ((strLen z : Nat) : Int) < _; omega, ?_⟩
    refine for_range (fun i σ H' => ∃ D' lab' l v, σ = [some (.ref b), some (.int n), some (.str z), some (.ref l), v] ∧ BOk CN CB H0 H' b D' ∧ BInv hs (Ds ++ [z.cps.toList.take i]) D.s0 D'.Vs D'.nd lab' ∧ l ∈ D'.Vs ∧ lab' l = z.cps.toList.take i ∧ Grown D D' ∧ D'.Vs.length ≤ D.Vs.length + 2 * i ∧ Tups H H')
      ⟨D, lab, D.s0, none, rfl, B, I.start h0, B.s0m, I.A.lab0, ⟨rfl, fun h => h, fun _ h => h⟩, Nat.le_refl _, fun _ _ h => h⟩ ?_ ?_
    · rintro i σ H1 hi ⟨D1, lab1, l, v, rfl, B1, I1, hl, el, gr1, len1, K1⟩
      have hi' : i < z.cps.toList.length := hi
      have hc : z.cps.toList[i]? = some (z.cps.toList[i]) := List.getElem?_eq_getElem hi'
      generalize z.cps.toList[i] = c at hc
      refine ⟨_, rfl, b, D1.dxb, _, rfl, B1.obj, rfl, ?_⟩
      rw [Int.zero_add]
      refine ⟨_, rfl, _, rfl, _, rfl, z, _, c, rfl, rfl, small (by show strLen z ≤ _; omega), atI_nat hc, _, rfl, _, rfl, _, _, rfl, rfl, (by show 2 ≤ sizeLine; decide), fun t ht => ?_⟩
      have kt : Tups H1 (upd H1 t (.tup [.int n, .int (((i : Nat) : Int) + 1)])) := Tups.upd (fun _ _ h => h) fun r => by rw [ht]; exact fun z => nomatch z
      refine ⟨H0, b, D1, hs, Ds, z.cps.toList.take i, c, lab1, l, .ref t, some (n, i + 1), rfl, B1.new ht, by rw [gr1.s0]; exact I1, hl, el, ⟨t, rfl, upd_same⟩, pairAt_take hm hc, fun x d => (take_al al hz).fac, ?_, fun H2 D2 lab2 t2 B2 I2 h2 e2 g2 l2 K2 => ?_⟩
      · have : D1.Vs.length ≤ D.Vs.length + 2 * i := len1
        have : i < strLen z := hi'
        omega
      · refine ⟨D2, lab2, t2, _, rfl, B2, ?_, h2, ?_, gr1.trans g2, ?_, K1.trans (kt.trans K2)⟩
        · rw [take_snoc hc, ← gr1.s0]; exact I2
        · rw [take_snoc hc]; exact e2
        · have : D1.Vs.length ≤ D.Vs.length + 2 * i := len1
          omega
    · rintro σ H' ⟨D', lab', l, v, rfl, B', I', hl, el, gr, len', K'⟩
      have e : z.cps.toList.take (((z.length : Nat) : Int).toNat) = z.cps.toList := List.take_of_length_le (by show z.cps.toList.length ≤ z.cps.toList.length; exact Nat.le_refl _)
      rw [e] at I'
      exact hQ H' D' lab' B' I' gr len' K'
end
end Sfx
end
section
set_option Elab.async false
set_option linter.all false
set_option maxRecDepth 100000
set_option maxHeartbeats 4000000
namespace Sfx
open PySem PySem.Spec L2
/-- only the lists of pairs change -/
structure Marked (H H' : Hp) (D D' : BD) (add : Addr → List (Int × Nat)) : Prop where
  vs : D'.Vs = D.Vs
  nd : D'.nd = D.nd
  s0 : D'.s0 = D.s0
  pl : D'.pl = D.pl
  nl : D'.nl = D.nl
  ps : ∀ m ∈ D.Vs, D'.ps m = D.ps m ++ add m
  keep : ∀ a o, H a = some o → (∀ m ∈ D.Vs, a ≠ D.pl m) → H' a = some o
theorem BOk.setP2 {CN CB : Addr} {H0 H : Hp} {b : Addr} {D : BD} (B : BOk CN CB H0 H b D) {m t : Addr} {x : Int × Nat} (hm : m ∈ D.Vs) (ht : H t = some (.tup (erow x))) (hl : (D.ps m).length < 5000) :
    ∃ acc D', H (D.pl m) = some (.lst acc) ∧ acc.length = (D.ps m).length ∧ BOk CN CB H0 (upd H (D.pl m) (.lst (acc ++ [V.ref t]))) b D' ∧ D'.Vs = D.Vs ∧ D'.nd = D.nd ∧ D'.s0 = D.s0 ∧ D'.pl = D.pl ∧ D'.nl = D.nl ∧ D'.ps = fun y => if y = m then D.ps m ++ [x] else D.ps y := by
  obtain ⟨acc, a1, a2, a3⟩ := B.setP hm ht hl
  exact ⟨acc, _, a1, a2, a3, rfl, rfl, rfl, rfl, rfl, rfl⟩
/-- a list that is no list of the builder's -/
theorem BOk.setL {CN CB : Addr} {H0 H : Hp} {b : Addr} {D : BD} (B : BOk CN CB H0 H b D) {x : Addr} {xs ys : List V} (hx : H x = some (.lst xs)) (h0 : H0 x = none) (n1 : x ≠ D.nl) (n2 : ∀ m ∈ D.Vs, x ≠ D.pl m) : BOk CN CB H0 (upd H x (.lst ys)) b D := by
  have kT : ∀ u r, H u = some (.tup r) → upd H x (.lst ys) u = some (.tup r) := fun u r e => by rw [upd_ne (ne_kind hx e (by intro z; cases z))]; exact e
  have kD : ∀ u r, H u = some (.dK r) → upd H x (.lst ys) u = some (.dK r) := fun u r e => by rw [upd_ne (ne_kind hx e (by intro z; cases z))]; exact e
  have kI : ∀ t' C d f, H t' = some (.ins C d f) → upd H x (.lst ys) t' = some (.ins C d f) := fun t' C d f e => by rw [upd_ne (ne_kind hx e (by intro z; cases z))]; exact e
  refine ⟨fun i m h => kI _ _ _ _ (B.inst i m h), fun m h => kD _ _ (B.edges m h), fun m h => ?_, fun m h => (B.pair m h).same kT, B.fr, B.edI, B.plI, B.nodup, same_wr B.same h0, kI _ _ _ _ B.obj, ?_, B.fb, B.s0m, B.len, B.elen, B.plen⟩
  · obtain ⟨qs, q1, q2⟩ := B.pairs m h
    exact ⟨qs, by rw [upd_ne (Ne.symm (n2 m h))]; exact q1, paired_imp (fun _ _ e => kT _ _ e) q2⟩
  · rw [upd_ne (Ne.symm n1)]; exact B.nodes
theorem Marked.free {CN CB : Addr} {H0 H H' : Hp} {b : Addr} {D D' : BD} {add : Addr → List (Int × Nat)} (M : Marked H H' D D' add) (B : BOk CN CB H0 H' b D') {a : Addr} (h : H' a = none) : H a = none := by
  cases q : H a with
  | none => rfl
  | some o =>
    by_cases e : ∀ m ∈ D.Vs, a ≠ D.pl m
    · rw [M.keep a o q e] at h; cases h
    · simp only [Classical.not_forall, Classical.not_not] at e
      obtain ⟨m, hm, e⟩ := e
      obtain ⟨qs, q1, _⟩ := B.pairs m (by rw [M.vs]; exact hm)
      rw [M.pl, ← e, h] at q1
      cases q1
open Classical in
noncomputable def pk (lab : Nat → W) (V : List Nat) (w : W) (cur : Option Nat) (k m : Nat) : Nat := if Past lab V w cur m then k + 1 else k
theorem pk_yes {lab : Nat → W} {V : List Nat} {w : W} {cur : Option Nat} {k m : Nat} (h : Past lab V w cur m) : pk lab V w cur k m = k + 1 := if_pos h
theorem pk_no {lab : Nat → W} {V : List Nat} {w : W} {cur : Option Nat} {k m : Nat} (h : ¬ Past lab V w cur m) : pk lab V w cur k m = k := if_neg h
section
variable {P : Program} {w : World} {K : PySem.W.Frag} {mg : Str → Option Value} {base : Heap} {ec : Nat → Addr} {CN CB : Addr}
abbrev s_Builder_mark_places : Stmt := inClass (topS 29) 5
abbrev N_Builder_mark_places : List Str := ["self", "number", "text", "state", "chain", "k", "node"]
theorem sc_Builder_mark_places : FnScope ["self", "number", "text", "state", "chain", "k", "node"] ["self", "number", "text"] (defScope s_Builder_mark_places) := ⟨rfl, rfl, rfl, by decide +kernel, rfl, by decide +kernel, by decide +kernel⟩
def sp_Builder_mark_places (CN CB : Addr) : Sp := fun vs H Q _ => ∃ (H0 : Hp) (b : Addr) (D : BD) (hs : List (Int × W)) (Ds : List W) (lab : Nat → W) (n : Int) (z : Str),
  vs = [.ref b, .int n, .str z] ∧ BOk CN CB H0 H b D ∧ BInv hs Ds D.s0 D.Vs D.nd lab ∧ z.cps.toList ∈ Ds ∧ strLen z ≤ 1000 ∧ (∀ m ∈ D.Vs, (D.ps m).length + strLen z + 1 ≤ 5000) ∧
  ∀ (H' : Hp) (D' : BD) (q : Addr) (cl : List Addr), BOk CN CB H0 H' b D' → Marked H H' D D' (fun m => occs n z.cps.toList (lab m) (strLen z + 1)) → H q = none → H' q = some (.lst (cl.map V.ref)) → (∀ m, m ∈ cl ↔ m ∈ D.Vs ∧ lab m <:+ z.cps.toList) → cl.length ≤ 1001 → Q (.ref q) H'
theorem ok_Builder_mark_places {f : Addr} {fd : FuncData} (F : Fun K "mark_places" "Builder.mark_places" s_Builder_mark_places f fd) (T : Txt mg) (TB : TxtB K CB) (TN : TxtN K CN) :
    FnOk P w K mg base CX0 1 f fd ["self", "number", "text"] (sp_Builder_mark_places CN CB) := by
  refine F.ok sc_Builder_mark_places (fun vs H Q E h => ?_) (fun cdv A outer s H vs Q E hr h => ?_)
  · obtain ⟨H0, b, D, hs, Ds, lab, n, z, rfl, _⟩ := h
    rfl
  · obtain ⟨H0, b, D, hs, Ds, lab, n, z, rfl, B, I, hz, hzl, hps, hQ⟩ := h
    have hu := hu_of hr
    refine ⟨_, (pss_cons (ps_set (i := 3) sc_Builder_mark_places.nd rfl (Or.inl rfl) (pe_fld (pv 0) rfl))
      (pss_cons (ps_set (i := 4) sc_Builder_mark_places.nd rfl (Or.inl rfl) (pe_lst pa_nil))
      (pss_cons (ps_for PassesOwn.never rfl (pi_range1 rfl T.range (pa_cons (pe_op op_add (pe_callB call_len_str (by rfl) T.len (by decide +kernel) (pa_cons (pv 2) pa_nil)) pe_int) pa_nil)) (pg_name (i := 5) sc_Builder_mark_places.nd rfl (Or.inl rfl))
      (pss_cut (ps_if (pt_cmpR op_gt (pv 5) pe_int (nomark _))
      (pss_one (ps_set (i := 3) sc_Builder_mark_places.nd rfl (Or.inl rfl) (pe_dget hu (pe_fld (pv 3) rfl) (pe_ix ix_str (pv 2) (pe_op op_sub (pv 5) pe_int) (fun _ _ => rfl)) (fun _ _ => rfl))))
      pss_nil)
      (pss_cons (ps_set (i := 4) sc_Builder_mark_places.nd rfl (Or.inl rfl) (pe_lst pa_nil))
      (pss_cons (ps_set (i := 6) sc_Builder_mark_places.nd rfl (Or.inl rfl) (pv 3))
      (pss_one (ps_while PassesOwn.never (pt_cmpR op_notN (pv 6) pe_non (nomark _))
      (pss_cons (ps_expr (pe_bm PySem.F.plainAttrs_list PySem.F.slot_list_append PySem.F.type_list_append mt_append (pe_fld (pv 6) rfl) (pa_cons (pe_tup (pa_cons (pv 1) (pa_cons (pv 5) pa_nil))) pa_nil)))
      (pss_cons (ps_expr (pe_bm PySem.F.plainAttrs_list PySem.F.slot_list_append PySem.F.type_list_append mt_append (pv 4) (pa_cons (pv 6) pa_nil)))
      (pss_one (ps_set (i := 6) sc_Builder_mark_places.nd rfl (Or.inl rfl) (pe_fld (pv 6) rfl)))))))))))
      (pss_one (ps_ret (pv 4)))))), ?_⟩
    have zl : z.length = strLen z := rfl
    refine ⟨_, rfl, b, CB, _, _, _, rfl, B.obj, TB.cl, TB.start, rfl, ?_⟩
    refine ⟨Nat.zero_le _, fun q0 hq0 => ?_⟩
    refine ⟨_, rfl, z, rfl, small (by omega), _, _, rfl, rfl, _, rfl, by omega, by omega, ?_⟩
    have kp0 : ∀ a o, H a = some o → upd H q0 (.lst []) a = some o := fun a o h => same_upd hq0 _ _ h
    refine for_range (fun k σ H' => ∃ (D' : BD) (st q : Addr) (cl : List Addr) (v5 v6 : Option V), σ = [some (.ref b), some (.int n), some (.str z), some (.ref st), some (.ref q), v5, v6] ∧ BOk CN CB H0 H' b D' ∧ Marked H H' D D' (fun m => occs n z.cps.toList (lab m) k) ∧ st ∈ D.Vs ∧ lab st = z.cps.toList.take (k - 1) ∧ H q = none ∧ H' q = some (.lst (cl.map V.ref)) ∧ (k = strLen z + 1 → ∀ m, m ∈ cl ↔ m ∈ D.Vs ∧ lab m <:+ z.cps.toList) ∧ cl.length ≤ 1001)
      ⟨D, D.s0, q0, [], none, none, rfl, B.new hq0, ⟨rfl, rfl, rfl, rfl, rfl, fun m _ => by simp [occs], fun a o h _ => kp0 a o h⟩, B.s0m, I.A.lab0, hq0, upd_same, fun h => by omega, Nat.zero_le _⟩ ?_ ?_
    · rintro k σ H1 hk ⟨D1, st, q, cl, v5, v6, rfl, B1, M1, hst, est, hq, hcl, _, _⟩
      rw [Int.zero_add]
      have hk' : k ≤ strLen z := by omega
      -- the next state
      refine ⟨fun σ' H' => ∃ st', H' = H1 ∧ σ' = [some (.ref b), some (.int n), some (.str z), some (.ref st'), some (.ref q), some (.int (k : Nat)), v6] ∧ st' ∈ D.Vs ∧ lab st' = z.cps.toList.take k, ?_, ?_⟩
      · refine ⟨_, rfl, _, _, rfl, rfl, _, rfl, ?_⟩
        by_cases h0 : 0 < k
        · refine if_pos_of (by simp; omega) ?_
          obtain ⟨ist, hist, hS⟩ := B1.at (m := st) (by rw [M1.vs]; exact hst)
          have hc : z.cps.toList[k - 1]? = some (z.cps.toList[k - 1]'(by show k - 1 < strLen z; omega)) := List.getElem?_eq_getElem _
          generalize z.cps.toList[k - 1]'(by show k - 1 < strLen z; omega) = c at hc
          obtain ⟨j, j1, j2, j3⟩ := I.A.walk hz hst est hc
          refine ⟨_, rfl, st, CN, _, _, _, rfl, hS, TN.cl, TN.edges, rfl, _, rfl, _, rfl, _, _, rfl, rfl, z, ((k - 1 : Nat) : Int), c, rfl, (congrArg V.int (by omega : ((k : Nat) : Int) - 1 = ((k - 1 : Nat) : Int))), small (by omega), atI_nat hc, D1.ed st, V.ref j, rfl, .inl ⟨_, .inr (sgn c), .inl (B1.edges st (by rw [M1.vs]; exact hst)), rfl, by rw [valV_ekv, M1.nd, j1]; rfl⟩, ?_⟩
          exact ⟨j, rfl, rfl, j2, by rw [j3, Nat.sub_add_cancel h0]⟩
        · have : k = 0 := by omega
          subst this
          exact if_neg_of (by simp) ⟨st, rfl, rfl, hst, est⟩
      · rintro σ' H' ⟨st', rfl, rfl, hst', est'⟩
        refine ⟨Nat.zero_le _, fun q1 hq1 => ⟨_, rfl, ?_⟩⟩
        have qH : H q1 = none := M1.free B1 hq1
        have qpl : ∀ m ∈ D.Vs, q1 ≠ D.pl m := fun m hm e => by
          obtain ⟨qs, q2, _⟩ := B1.pairs m (by rw [M1.vs]; exact hm)
          rw [M1.pl, ← e, hq1] at q2
          cases q2
        have kz : (z.cps.toList.take k).length ≤ k := by rw [List.length_take]; omega
        refine ⟨fun μ σ H2 => ∃ (D2 : BD) (cur : Option Nat) (cl2 : List Addr), σ = [some (.ref b), some (.int n), some (.str z), some (.ref st'), some (.ref q1), some (.int (k : Nat)), some (lkV cur)] ∧ BOk CN CB H0 H2 b D2 ∧ Marked H H2 D D2 (fun m => occs n z.cps.toList (lab m) (pk lab D.Vs (z.cps.toList.take k) cur k m)) ∧
          H2 q1 = some (.lst (cl2.map V.ref)) ∧ (∀ m, m ∈ cl2 ↔ Past lab D.Vs (z.cps.toList.take k) cur m) ∧ (∀ x, cur = some x → x ∈ D.Vs ∧ lab x <:+ z.cps.toList.take k) ∧ μ = (match cur with | none => 0 | some x => (lab x).length + 1) ∧ cl2.length + μ ≤ k + 1,
          ⟨_, D1, some st', [], rfl, B1.new hq1, ⟨M1.vs, M1.nd, M1.s0, M1.pl, M1.nl, fun m hm => by rw [pk_no (past_self est')]; exact M1.ps m hm, fun a o h g => same_upd hq1 _ _ (M1.keep a o h g)⟩, upd_same, fun m => ⟨fun h => (by cases h), fun h => absurd h (past_self est')⟩, fun x e => by cases e; exact ⟨hst', est' ▸ List.suffix_refl _⟩, rfl, by show 0 + ((lab st').length + 1) ≤ k + 1; rw [est']; omega⟩, ?_⟩
        rintro μ σ H2 ⟨D2, cur, cl2, rfl, B2, M2, hq2, hcl2, hcur, rfl, hlen2⟩
        cases cur with
        | none =>
          refine ⟨_, rfl, rfl, _, rfl, if_neg_of (by simp [lkV]) ?_⟩
          refine ⟨D2, st', q1, cl2, _, _, rfl, B2, ⟨M2.vs, M2.nd, M2.s0, M2.pl, M2.nl, fun m hm => ?_, M2.keep⟩, hst', by rw [Nat.add_sub_cancel]; exact est', qH, hq2, fun e m => ?_, by have : cl2.length + 0 ≤ k + 1 := hlen2; omega⟩
          · rw [M2.ps m hm]
            by_cases g : Past lab D.Vs (z.cps.toList.take k) none m
            · rw [pk_yes g]
            · rw [pk_no g, occs_no fun h => g (past_none.mpr ⟨hm, h⟩)]
          · have e' : z.cps.toList.take k = z.cps.toList := List.take_of_length_le (by show strLen z ≤ k; omega)
            rw [hcl2 m, past_none, e']
        | some x =>
          obtain ⟨hx, hxs⟩ := hcur x rfl
          have xV : x ∈ D2.Vs := by rw [M2.vs]; exact hx
          have hlen2 : cl2.length + ((lab x).length + 1) ≤ k + 1 := hlen2
          refine ⟨_, rfl, rfl, _, rfl, if_pos_of (by simp [lkV]) ⟨_, fun _ _ h => h, ?_⟩⟩
          obtain ⟨ix, hix, hX⟩ := B2.at xV
          obtain ⟨qs, p1, p2⟩ := B2.pairs x xV
          refine ⟨_, rfl, x, CN, _, _, _, rfl, hX, TN.cl, TN.pairs, rfl, .inl ⟨rfl, _, SqL.of p1⟩, ?_⟩
          refine ⟨_, rfl, _, rfl, (by show 2 ≤ sizeLine; decide), fun t ht => ?_⟩
          have pl2 : (D2.ps x).length < 5000 := by
            rw [M2.ps x hx, List.length_append]
            have h1 := hps x hx
            have h2 := occs_len (n := n) (z := z.cps.toList) (v := lab x) (k := pk lab D.Vs (z.cps.toList.take k) (some x) k x)
            have h3 : pk lab D.Vs (z.cps.toList.take k) (some x) k x ≤ k := by
              rw [pk_no fun ⟨_, _, g⟩ => absurd (g x rfl) (Nat.lt_irrefl _)]; exact Nat.le_refl _
            omega
          obtain ⟨acc, D3, a1, a2, B3, w1, w2, w3, w4, w6, w5⟩ := (B2.new ht).setP2 (x := (n, k)) xV upd_same pl2
          have tpl : ∀ a o, H2 a = some o → upd H2 t (.tup (erow (n, k))) a = some o := fun a o h => same_upd ht _ _ h
          refine ⟨D2.pl x, acc, _, rfl, rfl, a1, smallLt (by rw [a2]; omega), ?_⟩
          have ne1 : q1 ≠ D2.pl x := by rw [M2.pl]; exact qpl x hx
          have hq3 : upd (upd H2 t (.tup (erow (n, k)))) (D2.pl x) (.lst (acc ++ [V.ref t])) q1 = some (.lst (cl2.map V.ref)) := by
            rw [upd_ne ne1]; exact tpl _ _ hq2
          refine ⟨_, rfl, .inl ⟨rfl, _, SqL.of hq3⟩, _, rfl, q1, _, _, rfl, rfl, hq3, smallLt (by rw [List.length_map]; omega), ?_⟩
          have xV3 : x ∈ D3.Vs := by rw [w1]; exact xV
          have hq10 : H0 q1 = none := B.same.free qH
          have B4 : BOk CN CB H0 (upd (upd (upd H2 t (.tup (erow (n, k)))) (D2.pl x) (.lst (acc ++ [V.ref t]))) q1 (.lst (cl2.map V.ref ++ [V.ref x]))) b D3 := by
            refine B3.setL hq3 hq10 ?_ fun m hm => ?_
            · rw [w6, M2.nl]
              intro e
              rw [e, B.nodes] at qH
              cases qH
            · rw [w4, M2.pl]
              exact qpl m (by rw [← M2.vs, ← w1]; exact hm)
          obtain ⟨ix3, hix3, hX3⟩ := B4.at xV3
          refine ⟨_, rfl, x, CN, _, _, _, rfl, hX3, TN.cl, TN.link, rfl, ?_⟩
          have e4 : (D3.nd x).link = (D.nd x).link := by rw [w2, M2.nd]
          refine ⟨_, ?_, D3, (D.nd x).link, cl2 ++ [x], by rw [e4]; rfl, B4, ⟨w1.trans M2.vs, w2.trans M2.nd, w3.trans M2.s0, w4.trans M2.pl, w6.trans M2.nl, fun m hm => ?_, fun a o h g => ?_⟩, by rw [upd_same, List.map_append]; rfl, fun m => ?_, fun y e => ?_, rfl, ?_⟩
          · show (match (D.nd x).link with | none => 0 | some y => (lab y).length + 1) < (lab x).length + 1
            cases hlk : (D.nd x).link with
            | none => exact Nat.succ_pos _
            | some y =>
              obtain ⟨_, g1, g2, _⟩ := I.A.link x hx y hlk
              exact Nat.succ_lt_succ (suf_len_lt g1 g2)
          · rw [w5]
            have pl := I.A.past_link (w := z.cps.toList.take k) (m := m) hx hxs
            by_cases e : m = x
            · subst e
              rw [pk_yes (pl.mpr (.inl rfl)), occs_yes hxs, ← List.append_assoc]
              show (if m = m then D2.ps m ++ [(n, k)] else D2.ps m) = _
              rw [if_pos rfl, M2.ps m hx, pk_no fun ⟨_, _, g⟩ => absurd (g m rfl) (Nat.lt_irrefl _)]
            · show (if m = x then D2.ps x ++ [(n, k)] else D2.ps m) = _
              rw [if_neg e, M2.ps m hm]
              congr 2
              by_cases g : Past lab D.Vs (z.cps.toList.take k) (some x) m
              · rw [pk_yes g, pk_yes (pl.mpr (.inr g))]
              · rw [pk_no g, pk_no fun q => (pl.mp q).elim e g]
          · have h2 := M2.keep a o h g
            have n1 : a ≠ t := ne_of_none h2 ht
            have n2 : a ≠ D2.pl x := by rw [M2.pl]; exact g x hx
            have n3 : a ≠ q1 := ne_of_none h qH
            rw [upd_ne n3, upd_ne n2, upd_ne n1]
            exact h2
          · rw [I.A.past_link hx hxs, List.mem_append, List.mem_singleton, hcl2 m]
            exact Or.comm
          · obtain ⟨g0, g1, _⟩ := I.A.link x hx y e
            exact ⟨g0, g1.trans hxs⟩
          · rw [List.length_append]
            show cl2.length + 1 + (match (D.nd x).link with | none => 0 | some y => (lab y).length + 1) ≤ k + 1
            cases hlk : (D.nd x).link with
            | none => show cl2.length + 1 + 0 ≤ _; omega
            | some y =>
              obtain ⟨_, g1, g2, _⟩ := I.A.link x hx y hlk
              have := suf_len_lt g1 g2
              show cl2.length + 1 + ((lab y).length + 1) ≤ k + 1
              omega
    · rintro σ H' ⟨D', st, q, cl, v5, v6, rfl, B', M', hst, est, hq, hcl, hm, hll⟩
      have e : ((z.length : Nat) : Int) + 1 = ((strLen z + 1 : Nat) : Int) := by omega
      rw [e, Int.toNat_natCast] at M'
      exact ⟨_, rfl, hQ H' D' q cl B' M' hq hcl (hm (by omega)) hll⟩
end
end Sfx
end
section
set_option Elab.async false
set_option linter.all false
set_option maxRecDepth 100000
set_option maxHeartbeats 4000000
/-! The numbering of the states: by their shortest words. -/
namespace Sfx
open PySem PySem.Spec L2
def wds (ts : List (Int × Str)) : List W := [] :: ts.map fun t => t.2.cps.toList
def toS (v : W) : Str := ⟨v.toArray⟩
theorem toS_list (v : W) : (toS v).cps.toList = v := by simp [toS]
theorem toS_inj {v u : W} (h : toS v = toS u) : v = u := by rw [← toS_list v, h, toS_list]
theorem toS_of (z : Str) : toS z.cps.toList = z := by cases z; simp [toS]
structure Sh (S : W → Prop) (v s : W) : Prop where
  ext : Ext S s v
  least : ∀ s', s' <:+ v → s'.length < s.length → ¬ Ext S s' v
theorem Sh.uniq {S : W → Prop} {v s s' : W} (h : Sh S v s) (g : Sh S v s') : s = s' := by
  refine suf_len_eq h.ext.2.1 g.ext.2.1 ?_
  rcases Nat.lt_trichotomy s.length s'.length with q | q | q
  · exact absurd h.ext (g.least s h.ext.2.1 q)
  · exact q
  · exact absurd g.ext (h.least s' g.ext.2.1 q)
def szs (nd : Nat → Nd) (lab : Nat → W) (m : Nat) : Nat := match (nd m).link with | none => 0 | some y => (lab y).length + 1
def shOf (nd : Nat → Nd) (lab : Nat → W) (m : Nat) : W := (lab m).drop ((lab m).length - szs nd lab m)
section
variable {F S : W → Prop} {s0 : Nat} {V : List Nat} {nd : Nat → Nd} {lab : Nat → W}
theorem szs_le (A : Aut none F S s0 V nd lab) {m : Nat} (hm : m ∈ V) : szs nd lab m ≤ (lab m).length := by
  unfold szs
  cases h : (nd m).link with
  | none => exact Nat.zero_le _
  | some y => obtain ⟨_, q1, q2, _⟩ := A.link m hm y h; exact suf_len_lt q1 q2
theorem shOf_len (A : Aut none F S s0 V nd lab) {m : Nat} (hm : m ∈ V) : (shOf nd lab m).length = szs nd lab m := by
  unfold shOf
  rw [List.length_drop]
  have := szs_le A hm
  omega
theorem shOf_sh (A : Aut none F S s0 V nd lab) (G : Good F S) {m : Nat} (hm : m ∈ V) : Sh S (lab m) (shOf nd lab m) := by
  have hl := shOf_len A hm
  have hs : shOf nd lab m <:+ lab m := List.drop_suffix _ _
  have Sm := A.sound m hm
  cases h : (nd m).link with
  | none =>
    have e0 : m = s0 := (A.link0 m hm).mp h
    have e1 : lab m = [] := e0 ▸ A.lab0
    have e2 : shOf nd lab m = [] := List.suffix_nil.mp (e1 ▸ hs)
    rw [e2, e1]
    refine ⟨Ext.self G.nil, fun s' _ q => by simp at q⟩
  | some y =>
    have ez : szs nd lab m = (lab y).length + 1 := by unfold szs; rw [h]
    obtain ⟨y0, y1, y2, y3⟩ := A.link m hm y h
    refine ⟨⟨Sm, hs, fun z hz q => ?_⟩, fun s' h1 h2 q => ?_⟩
    · obtain ⟨x, hx⟩ := G.ex _ (G.suf _ _ (G.fac _ Sm) hs)
      have x1 := hx.2.2 _ Sm hs
      by_cases e : x = lab m
      · rw [← e]; exact hx.2.2 z hz q
      · have := (y3 x hx.1 x1 e).length_le
        have := hx.2.1.length_le
        omega
    · have h3 : s' <:+ lab y := suf_cmp h1 y1 (by omega)
      have h4 := (q.2.2 _ (A.sound y y0) h3).length_le
      have := suf_len_lt y1 y2
      omega
end
open Classical in
noncomputable def shW (S : W → Prop) (v : W) : W := if h : ∃ s, Sh S v s then h.choose else []
theorem shW_eq {S : W → Prop} {v s : W} (h : Sh S v s) : shW S v = s := by
  have q : ∃ s, Sh S v s := ⟨s, h⟩
  unfold shW
  rw [dif_pos q]
  exact q.choose_spec.uniq h
noncomputable def key2 (S : W → Prop) (v : W) : List V := [.int ((shW S v).length : Nat), .str (toS (shW S v)), .str (toS v)]
structure IsNum (S : W → Prop) (L : List W) : Prop where
  nodup : L.Nodup
  mem : ∀ v, v ∈ L ↔ S v
  sorted : (L.map (key2 S)).Pairwise fun x y => rowLt y x = false
theorem map_inj {α β : Type} {f : α → β} (h : ∀ a b, f a = f b → a = b) : ∀ {l m : List α}, l.map f = m.map f → l = m
  | [], [], _ => rfl
  | [], _ :: _, e => by simp at e
  | _ :: _, [], e => by simp at e
  | a :: l, b :: m, e => by
    rw [List.map_cons, List.map_cons] at e
    injection e with e1 e2
    rw [h a b e1, map_inj h e2]
theorem perm_of_nodup {α : Type} [DecidableEq α] {l m : List α} (h1 : l.Nodup) (h2 : m.Nodup) (h : ∀ a, a ∈ l ↔ a ∈ m) : l.Perm m := by
  rw [List.perm_iff_count]
  intro a
  by_cases q : a ∈ l
  · rw [List.Nodup.count h1, List.Nodup.count h2, if_pos q, if_pos ((h a).mp q)]
  · rw [List.count_eq_zero.mpr q, List.count_eq_zero.mpr fun z => q ((h a).mpr z)]
theorem IsNum.uniq {S : W → Prop} {L M : List W} (h : IsNum S L) (g : IsNum S M) : L = M := by
  have p : L.Perm M := perm_of_nodup h.nodup g.nodup fun a => by rw [h.mem, g.mem]
  have e := sorted_uniq (sh := [false, true, true]) (fun r hr => by obtain ⟨v, _, rfl⟩ := List.mem_map.mp hr; rfl) (p.map (key2 S)) h.sorted g.sorted
  refine map_inj (fun a b e => ?_) e
  unfold key2 at e
  injection e with _ e
  injection e with _ e
  injection e with e _
  injection e with e
  exact toS_inj e
theorem IsNum.zero {S : W → Prop} {L : List W} (h : IsNum S L) (n : S []) (ex : ∀ v, S v → ∃ s, Sh S v s) : L[0]? = some [] := by
  have m0 := (h.mem []).mpr n
  cases L with
  | nil => cases m0
  | cons v r =>
    by_cases e : v = []
    · rw [e]; rfl
    · exfalso
      have m1 : [] ∈ r := by
        rcases List.mem_cons.mp m0 with q | q
        · exact absurd q.symm e
        · exact q
      have hs := h.sorted
      rw [List.map_cons] at hs
      have q := (List.pairwise_cons.mp hs).1 (key2 S []) (List.mem_map.mpr ⟨[], m1, rfl⟩)
      obtain ⟨s, hv⟩ := ex v ((h.mem v).mp List.mem_cons_self)
      have e0 : shW S [] = [] := shW_eq ⟨Ext.self n, fun s' _ q => by simp at q⟩
      have e1 : 0 < (shW S v).length := by
        rw [shW_eq hv]
        rcases Nat.eq_zero_or_pos s.length with z | z
        · have : s = [] := List.eq_nil_of_length_eq_zero z
          subst this
          exact absurd (List.suffix_nil.mp (hv.ext.2.2 [] n (List.suffix_refl _))) e
        · exact z
      unfold key2 at q
      rw [e0, rowLt_int, decide_eq_true (by simp; omega)] at q
      cases q
/-- the rows the builder sorts -/
def row4 (Vs : List Nat) (nd : Nat → Nd) (lab : Nat → W) (k : Nat) : List V :=
  [.int ((shOf nd lab (Vs.getD k 0)).length : Nat), .str (toS (shOf nd lab (Vs.getD k 0))), .int (k : Nat), .str (toS (lab (Vs.getD k 0)))]
theorem perm_map_ex {α β : Type} {f : α → β} {m' m : List β} (h : m'.Perm m) : ∀ {l : List α}, m' = l.map f → ∃ l' : List α, m = l'.map f ∧ l'.Perm l := by
  induction h with
  | nil => intro l e; exact ⟨l, e, .refl _⟩
  | cons x _ ih =>
    intro l e
    cases l with
    | nil => cases e
    | cons a l =>
      rw [List.map_cons] at e
      injection e with e1 e2
      obtain ⟨l', q1, q2⟩ := ih e2
      exact ⟨a :: l', by rw [List.map_cons, q1, e1], q2.cons a⟩
  | swap x y l0 =>
    intro l e
    cases l with
    | nil => cases e
    | cons a l =>
      cases l with
      | nil => cases e
      | cons b l =>
        rw [List.map_cons, List.map_cons] at e
        injection e with e1 e2
        injection e2 with e2 e3
        exact ⟨b :: a :: l, by rw [List.map_cons, List.map_cons, e1, e2, e3], List.Perm.swap _ _ _⟩
  | trans _ _ ih1 ih2 =>
    intro l e
    obtain ⟨l1, q1, q2⟩ := ih1 e
    obtain ⟨l2, q3, q4⟩ := ih2 q1
    exact ⟨l2, q3, q4.trans q2⟩
theorem getD_of {α : Type} {l : List α} {k : Nat} {a d : α} (h : l[k]? = some a) : l.getD k d = a := by rw [List.getD_eq_getElem?_getD, h]; rfl
theorem map_getD {α : Type} (l : List α) (d : α) : (List.range l.length).map (fun k => l.getD k d) = l := by
  refine List.ext_getElem (by simp) fun i h1 h2 => ?_
  rw [List.getElem_map, List.getElem_range, List.getD_eq_getElem?_getD, List.getElem?_eq_getElem h2]
  rfl
theorem num_of {F S : W → Prop} {s0 : Nat} {V : List Nat} {nd : Nat → Nd} {lab : Nat → W} (A : Aut none F S s0 V nd lab) (G : Good F S) (hn : V.Nodup) {is : List Nat} (hp : is.Perm (List.range V.length))
    (hs : (is.map (row4 V nd lab)).Pairwise fun x y => rowLt y x = false) : (is.map fun k => V.getD k 0).Perm V ∧ IsNum S ((is.map fun k => V.getD k 0).map lab) := by
  have P : (is.map fun k => V.getD k 0).Perm V := by
    have := hp.map fun k => V.getD k 0
    rwa [map_getD] at this
  have Nd : (is.map fun k => V.getD k 0).Nodup := P.nodup_iff.mpr hn
  refine ⟨P, ⟨?_, fun v => ?_, ?_⟩⟩
  · rw [List.Nodup, List.pairwise_map]
    exact Nd.imp_of_mem fun {a b} ha hb ne e => ne (A.inj a (P.mem_iff.mp ha) b (P.mem_iff.mp hb) e)
  · rw [List.mem_map]
    constructor
    · rintro ⟨m, hm, rfl⟩
      exact A.sound m (P.mem_iff.mp hm)
    · intro h
      obtain ⟨m, hm, e⟩ := A.full v h
      exact ⟨m, P.mem_iff.mpr hm, e⟩
  · rw [List.map_map, List.map_map, List.pairwise_map]
    rw [List.pairwise_map] at hs
    rw [List.Nodup, List.pairwise_map] at Nd
    refine (hs.and Nd).imp_of_mem fun {i j} hi hj ⟨h1, h2⟩ => ?_
    have mem : ∀ {i}, i ∈ is → V.getD i 0 ∈ V := fun {i} h => P.mem_iff.mp (List.mem_map.mpr ⟨i, h, rfl⟩)
    have si := shOf_sh A G (mem hi)
    have sj := shOf_sh A G (mem hj)
    have ne : shOf nd lab (V.getD j 0) ≠ shOf nd lab (V.getD i 0) := fun e => by
      have e2 := (e ▸ sj.ext).uniq si.ext
      exact h2 (A.inj _ (mem hj) _ (mem hi) e2).symm
    show rowLt (key2 S (lab (V.getD j 0))) (key2 S (lab (V.getD i 0))) = false
    unfold key2
    unfold row4 at h1
    rw [shW_eq si, shW_eq sj]
    have ne' : toS (shOf nd lab (V.getD j 0)) ≠ toS (shOf nd lab (V.getD i 0)) := fun e => ne (toS_inj e)
    rw [rowLt_int, rowLt_str_ne ne'] at h1 ⊢
    exact h1
end Sfx
end
section
set_option Elab.async false
set_option linter.all false
set_option maxRecDepth 100000
set_option maxHeartbeats 4000000
namespace Sfx
open PySem PySem.Spec L2
section
variable {CN CB : Addr} {H0 H : Hp} {b : Addr} {D : BD}
theorem same_both {H0 H : Hp} {x : Addr} {o : HO} (s : Same H0 H) : Same (upd H0 x o) (upd H x o) := fun a u e => by
  by_cases q : a = x
  · subst q; rw [upd_same] at e ⊢; exact e
  · rw [upd_ne q] at e ⊢; exact s _ _ e
/-- an object of the world ahead changes (no tuple) -/
theorem BOk.base (B : BOk CN CB H0 H b D) {x : Addr} {o u : HO} (hx : H0 x = some u) (hu : ∀ r, u ≠ .tup r) : BOk CN CB (upd H0 x o) (upd H x o) b D := by
  have ne : ∀ {a : Addr}, H0 a = none → a ≠ x := fun h e => by rw [e, hx] at h; cases h
  have f0 : ∀ {a : Addr}, H0 a = none → upd H0 x o a = none := fun h => by rw [upd_ne (ne h)]; exact h
  have kT : ∀ t r, H t = some (.tup r) → upd H x o t = some (.tup r) := fun t r e => by
    rw [upd_ne fun z => ?_]
    · exact e
    · rw [z, B.same _ _ hx] at e; exact hu r (Option.some.inj e)
  refine ⟨fun i m h => ?_, fun m h => ?_, fun m h => ?_, fun m h => (B.pair m h).same kT, fun m h => ?_, B.edI, B.plI, B.nodup, same_both B.same, ?_, ?_, ⟨f0 B.fb.1, f0 B.fb.2⟩, B.s0m, B.len, B.elen, B.plen⟩
  · rw [upd_ne (ne (B.fr m (List.mem_of_getElem? h)).1)]; exact B.inst i m h
  · rw [upd_ne (ne (B.fr m h).2.1)]; exact B.edges m h
  · obtain ⟨qs, q1, q2⟩ := B.pairs m h
    exact ⟨qs, by rw [upd_ne (ne (B.fr m h).2.2.1)]; exact q1, paired_imp (fun _ _ e => kT _ _ e) q2⟩
  · obtain ⟨f1, f2, f3, f4⟩ := B.fr m h
    exact ⟨f0 f1, f0 f2, f0 f3, f4⟩
  · rw [upd_ne (ne B.fb.1)]; exact B.obj
  · rw [upd_ne (ne B.fb.2)]; exact B.nodes
/-- a new object, of the world from now on -/
theorem BOk.newB (B : BOk CN CB H0 H b D) {x : Addr} {o : HO} (hx : H x = none) : BOk CN CB (upd H0 x o) (upd H x o) b D := by
  have B' := B.new (o := o) hx
  have f0 : ∀ {a : Addr} {u : HO}, H a = some u → H0 a = none → upd H0 x o a = none := fun h g => by rw [upd_ne (ne_of_none h hx)]; exact g
  refine ⟨B'.inst, B'.edges, B'.pairs, B'.pair, fun m h => ?_, B.edI, B.plI, B.nodup, same_both B.same, B'.obj, B'.nodes, ⟨f0 B.obj B.fb.1, f0 B.nodes B.fb.2⟩, B.s0m, B.len, B.elen, B.plen⟩
  obtain ⟨f1, f2, f3, f4⟩ := B.fr m h
  obtain ⟨i, _, q1⟩ := B.at h
  obtain ⟨qs, q2, _⟩ := B.pairs m h
  exact ⟨f0 q1 f1, f0 (B.edges m h) f2, f0 q2 f3, f4⟩
/-- a list that stands joins the world ahead -/
theorem BOk.ext (B : BOk CN CB H0 H b D) {q : Addr} {ys : List V} (hq : H q = some (.lst ys)) (n1 : q ≠ D.nl) (n2 : ∀ m ∈ D.Vs, q ≠ D.pl m) : BOk CN CB (upd H0 q (.lst ys)) H b D := by
  refine ⟨B.inst, B.edges, B.pairs, B.pair, fun m h => ?_, B.edI, B.plI, B.nodup, fun a u e => ?_, B.obj, B.nodes, ⟨?_, ?_⟩, B.s0m, B.len, B.elen, B.plen⟩
  · obtain ⟨f1, f2, f3, f4⟩ := B.fr m h
    obtain ⟨i, _, q1⟩ := B.at h
    refine ⟨?_, ?_, ?_, f4⟩
    · rw [upd_ne (ne_kind hq q1 (fun z => nomatch z))]; exact f1
    · rw [upd_ne (ne_kind hq (B.edges m h) (fun z => nomatch z))]; exact f2
    · rw [upd_ne (Ne.symm (n2 m h))]; exact f3
  · by_cases z : a = q
    · subst z; rw [upd_same] at e; rw [hq]; exact e
    · rw [upd_ne z] at e; exact B.same _ _ e
  · rw [upd_ne (ne_kind hq B.obj (fun z => nomatch z))]; exact B.fb.1
  · rw [upd_ne (Ne.symm n1)]; exact B.fb.2
end
theorem cutS_nat (z : Str) (i j : Nat) : cutS z (some (i : Int)) (some (j : Int)) = toS ((z.cps.toList.take j).drop i) := by
  unfold cutS toS
  rw [HT.sIx_nat, HT.sIx_nat]
  congr 2
  have hl : z.length = z.cps.toList.length := rfl
  rw [List.drop_take]
  rcases Nat.le_total i z.length with h | h
  · rw [Nat.min_eq_left h]
    rcases Nat.le_total j z.length with g | g
    · rw [Nat.min_eq_left g]
    · rw [Nat.min_eq_right g, List.take_of_length_le (by rw [List.length_drop]; omega), List.take_of_length_le (by rw [List.length_drop]; omega)]
  · rw [Nat.min_eq_right h, List.drop_of_length_le (by omega), List.drop_of_length_le (by omega)]
    simp
section
variable {P : Program} {w : World} {K : PySem.W.Frag} {mg : Str → Option Value} {base : Heap} {ec : Nat → Addr} {CN CB : Addr}
abbrev s_stretch_of : Stmt := topS 30
abbrev N_stretch_of : List Str := ["house", "pair", "size", "number", "text"]
theorem sc_stretch_of : FnScope ["house", "pair", "size", "number", "text"] ["house", "pair", "size"] (defScope s_stretch_of) := ⟨rfl, rfl, rfl, by decide +kernel, rfl, by decide +kernel, by decide +kernel⟩
def sp_stretch_of : Sp := fun vs H Q _ => ∃ (a pr : Addr) (ts : List (Int × Str)) (n : Int) (k sz : Nat) (z : Str), vs = [.ref a, .ref pr, .int (sz : Nat)] ∧ LT H a (ts.map hrow) ∧ H pr = some (.tup (erow (n, k))) ∧ txt ts n = some z ∧ sz ≤ k ∧ strLen z ≤ 1000 ∧
  Q (.str (toS ((z.cps.toList.take k).drop (k - sz)))) H
theorem ok_stretch_of {f : Addr} {fd : FuncData} (F : Fun K "stretch_of" "stretch_of" s_stretch_of f fd) : FnOk P w K mg base CX0 1 f fd ["house", "pair", "size"] sp_stretch_of := by
  refine F.ok sc_stretch_of (fun vs H Q E h => ?_) (fun cdv A outer s H vs Q E hr h => ?_)
  · obtain ⟨a, pr, ts, n, k, sz, z, rfl, _⟩ := h
    rfl
  · obtain ⟨a, pr, ts, n, k, sz, z, rfl, hL, hp, hz, hk, hl, hQ⟩ := h
    refine ⟨_, (pss_cons (ps_for PassesOwn.never rfl (pi_list (pv 0)) (pg_tup rfl (pgs_cons (pg_name (i := 3) sc_stretch_of.nd rfl (Or.inl rfl)) (pgs_cons (pg_name (i := 4) sc_stretch_of.nd rfl (Or.inl rfl)) pgs_nil)))
      (pss_one (ps_if (pt_cmpR op_eq (pv 3) (pe_ix (ixT K) (pv 1) pe_int (fun _ _ => rfl)) (nomark _))
      (pss_one (ps_ret (pe_slice sl_str (pv 4) (po_some (pe_op op_sub (pe_ix (ixT K) (pv 1) pe_int (fun _ _ => rfl)) (pv 2))) (po_some (pe_ix (ixT K) (pv 1) pe_int (fun _ _ => rfl))))))
      pss_nil)))
      (pss_one (ps_ret pe_str))), ?_⟩
    refine ⟨_, rfl, a, rfl, ⟨_, SqL.of hL.choose_spec.1⟩, for_LT (K := K) hL (fun i σ H' => H' = H ∧ txt (ts.take i) n = none ∧ ∃ u v : Option V, σ = [some (.ref a), some (.ref pr), some (.int (sz : Nat)), u, v]) ⟨rfl, rfl, none, none, rfl⟩ (fun i σ H' _ ⟨e, _⟩ => by rw [e]; exact Same.refl _) ?_ ?_⟩
    · rintro i r p σ H' hi hp' ⟨rfl, ht, u, v, rfl⟩
      rw [List.getElem?_map] at hi
      obtain ⟨⟨m, y⟩, ht1, rfl⟩ := Option.map_eq_some_iff.mp hi
      have step := txt_take ht1 ht
      refine g2 hp' ⟨_, rfl, _, rfl, pr, _, 0, _, rfl, rfl, SqT.of hp, atE0 (n, k), rfl, _, rfl, ?_⟩
      by_cases e : m = n
      · subst e
        rw [if_pos rfl] at step
        have := txt_of_take step
        rw [hz] at this
        cases this
        refine if_pos_of (by simp) ⟨_, rfl, ?_⟩
        refine ⟨_, rfl, pr, _, 1, _, rfl, rfl, SqT.of hp, atE1 (m, k), _, rfl, _, _, rfl, rfl, _, rfl, _, rfl, pr, _, 1, _, rfl, rfl, SqT.of hp, atE1 (m, k), _, rfl, z, rfl, small (by show strLen z ≤ _; omega), ?_⟩
        have e1 : ((m, k).2 : Int) - (sz : Int) = ((k - sz : Nat) : Int) := by show (k : Int) - _ = _; omega
        rw [e1, cutS_nat]
        exact hQ
      · rw [if_neg e] at step
        refine if_neg_of (by simp [e]) ⟨rfl, step, _, _, rfl⟩
    · rintro σ H' ⟨rfl, ht, u, v, rfl⟩
      rw [List.length_map, List.take_length, hz] at ht
      cases ht

abbrev s_shortest_size : Stmt := topS 31
abbrev N_shortest_size : List Str := ["node"]
theorem sc_shortest_size : FnScope ["node"] ["node"] (defScope s_shortest_size) := ⟨rfl, rfl, rfl, by decide +kernel, rfl, by decide +kernel, by decide +kernel⟩
def sp_shortest_size (CN CB : Addr) : Sp := fun vs H Q _ => ∃ (H0 : Hp) (b : Addr) (D : BD) (F S : W → Prop) (lab : Nat → W) (m : Addr), vs = [.ref m] ∧ BOk CN CB H0 H b D ∧ Aut none F S D.s0 D.Vs D.nd lab ∧ m ∈ D.Vs ∧ Q (.int (szs D.nd lab m : Nat)) H
theorem ok_shortest_size {f : Addr} {fd : FuncData} (F : Fun K "shortest_size" "shortest_size" s_shortest_size f fd) (TN : TxtN K CN) : FnOk P w K mg base CX0 1 f fd ["node"] (sp_shortest_size CN CB) := by
  refine F.ok sc_shortest_size (fun vs H Q E h => ?_) (fun cdv A outer s H vs Q E hr h => ?_)
  · obtain ⟨H0, b, D, F, S, lab, m, rfl, _⟩ := h
    rfl
  · obtain ⟨H0, b, D, F, S, lab, m, rfl, B, A, hm, hQ⟩ := h
    refine ⟨_, (pss_cons (ps_if (pt_cmpR op_isN (pe_fld (pv 0) rfl) pe_non (nomark _))
      (pss_one (ps_ret pe_int))
      pss_nil)
      (pss_one (ps_ret (pe_op op_add (pe_fld (pe_fld (pv 0) rfl) rfl) pe_int)))), ?_⟩
    obtain ⟨im, him, hM⟩ := B.at hm
    refine ⟨_, rfl, m, CN, _, _, _, rfl, hM, TN.cl, TN.link, rfl, rfl, _, rfl, ?_⟩
    unfold szs at hQ
    cases hlk : (D.nd m).link with
    | none =>
      rw [hlk] at hQ
      exact if_pos_of (by simp [lkV]) hQ
    | some y =>
      rw [hlk] at hQ
      have hy : y ∈ D.Vs := (A.link m hm y hlk).1
      obtain ⟨iy, hiy, hY⟩ := B.at hy
      refine if_neg_of (by simp [lkV]) ?_
      refine ⟨_, rfl, m, CN, _, _, _, rfl, hM, TN.cl, TN.link, rfl, y, CN, _, _, _, (by rw [hlk]; rfl), hY, TN.cl, TN.size, rfl, _, _, rfl, rfl, ?_⟩
      rw [A.size y hy]
      exact hQ
end
end Sfx
end
section
set_option Elab.async false
set_option linter.all false
set_option maxRecDepth 100000
set_option maxHeartbeats 4000000
namespace Sfx
open PySem PySem.Spec L2
structure TxtT (K : PySem.W.Frag) (CT : Addr) : Prop where
  cl : Cls K CT
  marks : NoAttr K CT "marks"
  rows : NoAttr K CT "rows"
def hsOf (ts : List (Int × Str)) : List (Int × W) := ts.map fun t => (t.1, t.2.cps.toList)
def allOccs (ts : List (Int × Str)) (v : W) : List (Int × Nat) := ts.flatMap fun t => occs t.1 t.2.cps.toList v (strLen t.2 + 1)
theorem wds_take {ts : List (Int × Str)} {i : Nat} {t : Int × Str} (h : ts[i]? = some t) : wds (ts.take (i + 1)) = wds (ts.take i) ++ [t.2.cps.toList] := by
  unfold wds
  rw [take_snoc h, List.map_append]
  rfl
theorem allOccs_take {ts : List (Int × Str)} {i : Nat} {t : Int × Str} {v : W} (h : ts[i]? = some t) : allOccs (ts.take (i + 1)) v = allOccs (ts.take i) v ++ occs t.1 t.2.cps.toList v (strLen t.2 + 1) := by
  unfold allOccs
  rw [take_snoc h, List.flatMap_append]
  simp
theorem allOccs_len {ts : List (Int × Str)} {v : W} (h : ∀ t ∈ ts, strLen t.2 ≤ 40) : (allOccs ts v).length ≤ 41 * ts.length := by
  unfold allOccs
  induction ts with
  | nil => simp
  | cons t r ih =>
    have h1 := h t List.mem_cons_self
    have h2 := ih fun x hx => h x (List.mem_cons_of_mem _ hx)
    have h3 := occs_len (n := t.1) (z := t.2.cps.toList) (v := v) (k := strLen t.2 + 1)
    rw [List.flatMap_cons, List.length_append, List.length_cons]
    omega
theorem fac0 {w : W} : Fac [[]] w ↔ w = [] := by
  constructor
  · rintro ⟨t, ht, e, o⟩
    have : t = [] := by simpa using ht
    subst this
    have := o.2
    simp at this
    exact this
  · rintro rfl
    exact ⟨[], by simp, 0, by simp, by simp⟩
theorem can0 {w : W} : Can [[]] w ↔ w = [] := ⟨fun h => fac0.mp (h.fac (by simp)), fun h => .inl h⟩
theorem binv0 {hs : List (Int × W)} {s0 : Nat} : BInv hs [[]] s0 [s0] (fun _ => { edges := [], link := none, size := 0, pair := none }) (fun _ => []) := by
  have one : ∀ {m : Nat}, m ∈ [s0] → m = s0 := fun h => by simpa using h
  refine ⟨⟨by simp, rfl, fun i hi j hj _ => (one hi).trans (one hj).symm, fun _ _ => .inl rfl, fun w hw => ⟨s0, by simp, (can0.mp hw).symm⟩, fun _ _ => rfl, fun i hi => ⟨fun _ => one hi, fun _ => rfl⟩, fun _ _ _ h => (by cases h), fun _ _ => List.nodup_nil, fun _ _ _ _ h => (by cases h), fun i hi c h => absurd (fac0.mp h) (by simp), fun _ _ z => by cases z⟩, fun m hm ne => absurd (one hm) ne, rfl⟩
theorem drop_suf {u v : W} (h : v <:+ u) {s : Nat} (hs : s ≤ v.length) : u.drop (u.length - s) = v.drop (v.length - s) := by
  obtain ⟨p, rfl⟩ := h
  rw [List.length_append, List.drop_append, List.drop_of_length_le (by omega), List.nil_append]
  congr 1
  omega
def rrow (nd : Nat → Nd) (lab : Nat → W) (m : Nat) : List V := [.str (toS (shOf nd lab m)), .str (toS (lab m)), .ref m]
/-- the tuples, and the object at p -/
def tpOf (H : Hp) (p : Addr) : Hp := fun c => if c = p then H c else match H c with
  | some (.tup r) => some (.tup r)
  | _ => none
theorem tpOf_same {H H' : Hp} {p : Addr} {u : HO} (h : H p = some u) (h' : H' p = some u) (t : Tups H H') : Same (tpOf H p) H' := fun c o e => by
  unfold tpOf at e
  by_cases q : c = p
  · rw [if_pos q, q, h] at e; rw [q, h']; exact e
  · rw [if_neg q] at e
    split at e
    · rename_i r hr
      rw [← e]
      exact t c r hr
    · cases e
theorem tpOf_LT {H : Hp} {p : Addr} {rows : List (List V)} (h : LT H p rows) : LT (tpOf H p) p rows := by
  obtain ⟨qs, q1, q2⟩ := h
  refine ⟨qs, ?_, paired_imp (fun c r e => ?_) q2⟩
  · unfold tpOf; rw [if_pos rfl]; exact q1
  · unfold tpOf
    by_cases q : c = p
    · rw [if_pos q]; exact e
    · rw [if_neg q, e]
/-- the rows of marks -/
structure Mks (H : Hp) (ts : List (Int × Str)) (U : List Addr) (lab : Nat → W) (i : Nat) (mrs : List (List V)) : Prop where
  len : mrs.length = i
  row : ∀ (j : Nat) (n : Int) (z : Str), j < i → ts[j]? = some (n, z) → ∃ (c : Addr) (cl : List Addr), mrs[j]? = some [.int n, .ref c] ∧ H c = some (.lst (cl.map V.ref)) ∧ (∀ m, m ∈ cl ↔ m ∈ U ∧ lab m <:+ z.cps.toList) ∧ cl.length ≤ 1001
theorem Mks.same {H H' : Hp} {ts : List (Int × Str)} {U : List Addr} {lab : Nat → W} {i : Nat} {mrs : List (List V)} (M : Mks H ts U lab i mrs) (s : Same H H') : Mks H' ts U lab i mrs :=
  ⟨M.len, fun j n z hj h => let ⟨c, cl, a, b, d, e⟩ := M.row j n z hj h; ⟨c, cl, a, s _ _ b, d, e⟩⟩
structure Blt (CN CB CT : Addr) (ts : List (Int × Str)) (Hb H : Hp) (x b : Addr) (D : BD) (lab : Nat → W) (ord : List Addr) : Prop where
  B : BOk CN CB Hb H b D
  vlen : D.Vs.length ≤ 641
  I : BInv (hsOf ts) (wds ts) D.s0 D.Vs D.nd lab
  perm : ord.Perm D.Vs
  num : IsNum (Can (wds ts)) (ord.map lab)
  nums : ∀ (j : Nat) (m : Addr), ord[j]? = some m → D.num m = (j : Nat)
  ps : ∀ m ∈ D.Vs, D.ps m = allOccs ts (lab m)
  obj : ∃ (dxx ml rl : Addr) (mrs : List (List V)), H x = some (.ins CT dxx [("marks", .ref ml), ("rows", .ref rl)]) ∧ LT H rl (ord.map (rrow D.nd lab)) ∧ LT H ml mrs ∧ Mks H ts D.Vs lab ts.length mrs
section
variable {P : Program} {w : World} {K : PySem.W.Frag} {mg : Str → Option Value} {base : Heap} {ec : Nat → Addr} {CN CB CT : Addr}
abbrev s_Built_init : Stmt := inClass (topS 32) 0
abbrev N_Built_init : List Str := ["self", "house", "builder", "number", "text", "rows", "k", "node", "shortest", "longest", "_"]
theorem sc_Built_init : FnScope ["self", "house", "builder", "number", "text", "rows", "k", "node", "shortest", "longest", "_"] ["self", "house"] (defScope s_Built_init) := ⟨rfl, rfl, rfl, by decide +kernel, rfl, by decide +kernel, by decide +kernel⟩
def sp_Built_init (CN CB CT : Addr) : Sp := fun vs H Q _ => ∃ (a x dxx : Addr) (ts : List (Int × Str)), vs = [.ref x, .ref a] ∧ H x = some (.ins CT dxx []) ∧ LT H a (ts.map hrow) ∧ GoodTs ts ∧
  ∀ H' Hb b D lab ord, Blt CN CB CT ts Hb H' x b D lab ord → Same (del H x) Hb → Q .non H'
theorem ok_Built_init {f : Addr} {fd : FuncData} (F : Fun K "__init__" "Built.__init__" s_Built_init f fd) (T : Txt mg) (TB : TxtB K CB) (TN : TxtN K CN) (TT : TxtT K CT)
    (h_Builder : HasC P w K mg base CX0 "Builder" CB 3 ["self"] (sp_Builder_init CN CB)) (h_Builder_add_text : HasM P w K mg base CX0 CB "add_text" 6 ["self", "number", "text"] (sp_Builder_add_text CN CB))
    (h_Builder_mark_places : HasM P w K mg base CX0 CB "mark_places" 1 ["self", "number", "text"] (sp_Builder_mark_places CN CB)) (h_stretch_of : HasF P w K mg base CX0 "stretch_of" 1 ["house", "pair", "size"] sp_stretch_of)
    (h_shortest_size : HasF P w K mg base CX0 "shortest_size" 1 ["node"] (sp_shortest_size CN CB)) :
    FnOk P w K mg base CX0 7 f fd ["self", "house"] (sp_Built_init CN CB CT) := by
  refine F.ok sc_Built_init (fun vs H Q E h => ?_) (fun cdv A outer s H vs Q E hr h => ?_)
  · obtain ⟨a, x, dxx, ts, rfl, _⟩ := h
    rfl
  · obtain ⟨a, x, dxx, ts, rfl, hx, hL, hG, hQ⟩ := h
    refine ⟨_, (pss_cons (ps_set (i := 2) sc_Built_init.nd rfl (Or.inl rfl) (pe_makeG0 h_Builder (hr.mono (by decide))))
      (pss_cons (ps_for PassesOwn.never rfl (pi_list (pv 1)) (pg_tup rfl (pgs_cons (pg_name (i := 3) sc_Built_init.nd rfl (Or.inl rfl)) (pgs_cons (pg_name (i := 4) sc_Built_init.nd rfl (Or.inl rfl)) pgs_nil)))
      (pss_one (ps_expr (pe_methG (pv 2) h_Builder_add_text (hr.mono (by decide)) p0 (pa_cons (pv 3) (pa_cons (pv 4) pa_nil))))))
      (pss_cons (ps_fld (pv 0) (pe_lst pa_nil) rfl)
      (pss_cons (ps_for PassesOwn.never rfl (pi_list (pv 1)) (pg_tup rfl (pgs_cons (pg_name (i := 3) sc_Built_init.nd rfl (Or.inl rfl)) (pgs_cons (pg_name (i := 4) sc_Built_init.nd rfl (Or.inl rfl)) pgs_nil)))
      (pss_one (ps_expr (pe_bm PySem.F.plainAttrs_list PySem.F.slot_list_append PySem.F.type_list_append mt_append (pe_fld (pv 0) rfl) (pa_cons (pe_tup (pa_cons (pv 3) (pa_cons (pe_methG (pv 2) h_Builder_mark_places (hr.mono (by decide)) p0 (pa_cons (pv 3) (pa_cons (pv 4) pa_nil))) pa_nil))) pa_nil)))))
      (pss_cons (ps_set (i := 5) sc_Built_init.nd rfl (Or.inl rfl) (pe_lst pa_nil))
      (pss_cons (ps_for PassesOwn.never rfl (pi_range1 rfl T.range (pa_cons (pe_callB (lenQ K) (by rfl) T.len (by decide +kernel) (pa_cons (pe_fld (pv 2) rfl) pa_nil)) pa_nil)) (pg_name (i := 6) sc_Built_init.nd rfl (Or.inl rfl))
      (pss_cons (ps_set (i := 7) sc_Built_init.nd rfl (Or.inl rfl) (pe_ix (ixL K) (pe_fld (pv 2) rfl) (pv 6) (fun _ _ => rfl)))
      (pss_cons (ps_set (i := 8) sc_Built_init.nd rfl (Or.inl rfl) pe_str)
      (pss_cons (ps_set (i := 9) sc_Built_init.nd rfl (Or.inl rfl) pe_str)
      (pss_cut (ps_if (pt_cmpR op_notN (pe_fld (pv 7) rfl) pe_non (nomark _))
      (pss_cons (ps_set (i := 8) sc_Built_init.nd rfl (Or.inl rfl) (pe_callG h_stretch_of (hr.mono (by decide)) p0 (pa_cons (pv 1) (pa_cons (pe_fld (pv 7) rfl) (pa_cons (pe_callG h_shortest_size (hr.mono (by decide)) p0 (pa_cons (pv 7) pa_nil)) pa_nil)))))
      (pss_one (ps_set (i := 9) sc_Built_init.nd rfl (Or.inl rfl) (pe_callG h_stretch_of (hr.mono (by decide)) p0 (pa_cons (pv 1) (pa_cons (pe_fld (pv 7) rfl) (pa_cons (pe_fld (pv 7) rfl) pa_nil)))))))
      pss_nil)
      (pss_one (ps_expr (pe_bm PySem.F.plainAttrs_list PySem.F.slot_list_append PySem.F.type_list_append mt_append (pv 5) (pa_cons (pe_tup (pa_cons (pe_callB call_len_str (by rfl) T.len (by decide +kernel) (pa_cons (pv 8) pa_nil)) (pa_cons (pv 8) (pa_cons (pv 6) (pa_cons (pv 9) pa_nil))))) pa_nil)))))))))
      (pss_cons (ps_fld (pv 0) (pe_lst pa_nil) rfl)
      (pss_one (ps_for PassesOwn.never rfl (pi_list (pe_callB cr_sortedM (by rfl) T.sorted (by decide +kernel) (pa_cons (pv 5) pa_nil))) (pg_tup rfl (pgs_cons (pg_name (i := 10) sc_Built_init.nd rfl (Or.inl rfl)) (pgs_cons (pg_name (i := 8) sc_Built_init.nd rfl (Or.inl rfl)) (pgs_cons (pg_name (i := 6) sc_Built_init.nd rfl (Or.inl rfl)) (pgs_cons (pg_name (i := 9) sc_Built_init.nd rfl (Or.inl rfl)) pgs_nil)))))
      (pss_cons (ps_fld (pe_ix (ixL K) (pe_fld (pv 2) rfl) (pv 6) (fun _ _ => rfl)) (pe_callB (lenQ K) (by rfl) T.len (by decide +kernel) (pa_cons (pe_fld (pv 0) rfl) pa_nil)) rfl)
      (pss_one (ps_expr (pe_bm PySem.F.plainAttrs_list PySem.F.slot_list_append PySem.F.type_list_append mt_append (pe_fld (pv 0) rfl) (pa_cons (pe_tup (pa_cons (pv 8) (pa_cons (pv 9) (pa_cons (pe_ix (ixL K) (pe_fld (pv 2) rfl) (pv 6) (fun _ _ => rfl)) pa_nil)))) pa_nil)))))))))))))), ?_⟩
    have hL0 : LT (del H x) a (ts.map hrow) := by
      obtain ⟨qs, q1, q2⟩ := hL
      exact ⟨qs, by rw [del_ne (ne_kind hx q1 (fun z => nomatch z))]; exact q1, paired_imp (fun p r e => by rw [del_ne (ne_kind hx e (fun z => nomatch z))]; exact e) q2⟩
    -- builder
    intro b dxb nb ndb nbe
    have nb_ : upd H dxb (.own b) b = none := by rw [upd_ne (Ne.symm nbe)]; exact nb
    refine ⟨H, b, dxb, rfl, upd_same, same_to (same_upd ndb) nb_, nb, fun H1 s0 e p dx nl B0 => ⟨rfl, _, rfl, ?_⟩⟩
    have hn8 := hG.most
    have S0 : Same (del H x) H := fun c o e => by
      by_cases q : c = x
      · subst q; rw [del_same] at e; cases e
      · rw [del_ne q] at e; exact e
    have hLB : LT H1 a (ts.map hrow) := hL.same B0.same
    have zlt : ∀ {i : Nat} {n : Int} {z : Str}, ts[i]? = some (n, z) → strLen z ≤ 40 ∧ (∀ c ∈ z.cps.toList, c < 200) ∧ (n, z.cps.toList) ∈ hsOf ts ∧ z.cps.toList ∈ wds ts := fun {i n z} h => by
      have m := List.mem_of_getElem? h
      refine ⟨hG.len _ m, fun c hc => ?_, List.mem_map.mpr ⟨_, m, rfl⟩, List.mem_cons_of_mem _ (List.mem_map.mpr ⟨_, m, rfl⟩)⟩
      rcases hG.ltr _ m c hc with h | h | h <;> omega
    have alt : ∀ i, Al (wds (ts.take i)) := fun i t ht c hc => by
      rcases List.mem_cons.mp ht with e | ht
      · rw [e] at hc; cases hc
      · obtain ⟨⟨n, z⟩, hm, rfl⟩ := List.mem_map.mp ht
        rcases hG.ltr _ (List.mem_of_mem_take hm) c hc with h | h | h <;> omega
    refine ⟨a, rfl, ⟨_, SqL.of hLB.choose_spec.1⟩, for_LT (K := K) (H0 := H) hL (fun i σ H' => ∃ (D : BD) (lab : Nat → W) (v3 v4 : Option V), σ = [some (.ref x), some (.ref a), some (.ref b), v3, v4, none, none, none, none, none, none] ∧ BOk CN CB H H' b D ∧ BInv (hsOf ts) (wds (ts.take i)) D.s0 D.Vs D.nd lab ∧ (∀ m ∈ D.Vs, D.ps m = []) ∧ D.Vs.length ≤ 1 + 80 * i)
      ⟨_, fun _ => [], none, none, rfl, B0, by rw [List.take_zero]; exact binv0, fun _ _ => rfl, Nat.le_refl _⟩ (fun i σ H' _ ⟨D, _, _, _, _, B, _⟩ => B.same) ?_ ?_⟩
    · rintro i r p σ H' hi hp' ⟨D, lab, v3, v4, rfl, B, I, hps, hlen⟩
      rw [List.getElem?_map] at hi
      obtain ⟨⟨n, z⟩, ht1, rfl⟩ := Option.map_eq_some_iff.mp hi
      obtain ⟨z1, z2, z3, z4⟩ := zlt ht1
      have hi8 : i < 8 := Nat.lt_of_lt_of_le (List.getElem?_eq_some_iff.mp ht1).1 hn8
      refine g2 hp' ?_
      refine ⟨_, rfl, b, D.dxb, _, rfl, B.obj, rfl, _, rfl, _, rfl, H, b, D, hsOf ts, wds (ts.take i), lab, n, z, rfl, B, I, List.mem_cons_self, z3, alt i, z2, by omega, by omega, fun H2 D2 lab2 B2 I2 g2' l2 K2 => ?_⟩
      refine ⟨D2, lab2, _, _, rfl, B2, ?_, g2'.ps hps, by omega⟩
      rw [wds_take ht1, g2'.s0]
      exact I2
    rintro σ H2 ⟨D, lab, v3, v4, rfl, B, I, hps, hlen⟩
    rw [List.length_map] at I hlen
    rw [List.take_length] at I
    have G := good (D := wds ts) (by unfold wds; simp)
    -- marks
    refine ⟨Nat.zero_le _, fun ml hml => ?_⟩
    have xml : x ≠ ml := ne_of_none (B.same _ _ hx) hml
    refine ⟨_, rfl, x, CT, dxx, [], rfl, (by rw [upd_ne xml]; exact B.same _ _ hx), TT.cl, TT.marks, (by decide), ?_⟩
    have mlH : H ml = none := B.same.free hml
    have Bm := (B.newB (o := .lst []) hml).base (x := x) (o := .ins CT dxx (putF "marks" (.ref ml) [])) (by rw [upd_ne xml]; exact hx) (fun r z => by cases z)
    have Sm : Same (del H x) (upd (upd H ml (.lst [])) x (.ins CT dxx (putF "marks" (.ref ml) []))) := same_wr (same_to S0 mlH) del_same
    refine ⟨_, rfl, a, rfl, ⟨_, SqL.of ((hL0.same (Sm.trans Bm.same)).choose_spec.1)⟩, for_LT (K := K) (H0 := del H x) hL0 (fun i σ H' => ∃ (Hb : Hp) (D' : BD) (mrs : List (List V)) (v3 v4 : Option V), σ = [some (.ref x), some (.ref a), some (.ref b), v3, v4, none, none, none, none, none, none] ∧ BOk CN CB Hb H' b D' ∧ Same (del H x) Hb ∧ Hb x = some (.ins CT dxx [("marks", .ref ml)]) ∧ LT Hb ml mrs ∧
        Mks (del Hb ml) ts D.Vs lab i mrs ∧ D'.Vs = D.Vs ∧ D'.nd = D.nd ∧ D'.s0 = D.s0 ∧ ∀ m ∈ D.Vs, D'.ps m = allOccs (ts.take i) (lab m))
      ⟨_, D, [], v3, v4, rfl, Bm, Sm, upd_same, ⟨[], by rw [upd_ne (Ne.symm xml), upd_same]; rfl, .nil⟩, ⟨rfl, fun j n z hj _ => by omega⟩, rfl, rfl, rfl, fun m hm => by rw [hps m hm]; rfl⟩ (fun i σ H' _ ⟨Hb, D', mrs, _, _, _, B, Sb, _⟩ => Sb.trans B.same) ?_ ?_⟩
    · rintro i r p σ H3 hi hp' ⟨Hb, D', mrs, v3, v4, rfl, B', Sb, hxb, hmlL, hM, eV, eN, e0, hps'⟩
      rw [List.getElem?_map] at hi
      obtain ⟨⟨n, z⟩, ht1, rfl⟩ := Option.map_eq_some_iff.mp hi
      obtain ⟨z1, z2, z3, z4⟩ := zlt ht1
      have hi8 : i < 8 := Nat.lt_of_lt_of_le (List.getElem?_eq_some_iff.mp ht1).1 hn8
      refine g2 hp' ?_
      obtain ⟨acc0, a0, _⟩ := id hmlL
      refine ⟨_, rfl, x, CT, dxx, _, _, rfl, B'.same _ _ hxb, TT.cl, TT.marks, rfl, .inl ⟨rfl, _, SqL.of (B'.same _ _ a0)⟩, ?_⟩
      refine ⟨_, rfl, _, rfl, b, D'.dxb, _, rfl, B'.obj, rfl, _, rfl, _, rfl, ?_⟩
      refine ⟨Hb, b, D', hsOf ts, wds ts, lab, n, z, rfl, B', by rw [eV, eN, e0]; exact I, z4, by omega, fun m hm => ?_, fun H4 D4 q cl B4 M4 hq hq4 hcl hcll => ?_⟩
      · rw [hps' m (by rw [← eV]; exact hm)]
        have h1 := allOccs_len (ts := ts.take i) (v := lab m) fun t ht => hG.len t (List.mem_of_mem_take ht)
        rw [List.length_take] at h1
        have h2 : 41 * min i ts.length ≤ 41 * 8 := Nat.mul_le_mul_left _ (by omega)
        omega
      · refine ⟨(by show 2 ≤ sizeLine; decide), fun t ht => ?_⟩
        have qnl : q ≠ D4.nl := fun e => by rw [M4.nl] at e; rw [e, B'.nodes] at hq; cases hq
        have qpl : ∀ m ∈ D4.Vs, q ≠ D4.pl m := fun m hm e => by
          obtain ⟨qs, q2, _⟩ := B'.pairs m (by rw [← M4.vs]; exact hm)
          rw [M4.pl] at e
          rw [← e, hq] at q2
          cases q2
        have B6 := (B4.ext hq4 qnl qpl).newB (o := .tup [.int n, .ref q]) ht
        have tq : t ≠ q := fun e => by rw [e, hq4] at ht; cases ht
        have s6 : Same Hb (upd (upd Hb q (.lst (cl.map V.ref))) t (.tup [.int n, .ref q])) := same_to (same_upd (B'.same.free hq)) (by rw [upd_ne tq]; exact B4.same.free ht)
        obtain ⟨acc, a1, a2, a3⟩ := (hmlL.same s6).app (p := t) (r := [.int n, .ref q]) upd_same
        refine ⟨ml, acc, _, rfl, rfl, B6.same _ _ a1, smallLt (by rw [a2, hM.len]; omega), ?_⟩
        have B7 := B6.base (x := ml) (o := .lst (acc ++ [.ref t])) a1 (fun r z => by cases z)
        have qml : q ≠ ml := fun e => by rw [e, B'.same _ _ a0] at hq; cases hq
        refine ⟨_, D4, mrs ++ [[.int n, .ref q]], _, _, rfl, B7, same_wr (Sb.trans s6) ((del_ne (Ne.symm xml)).trans mlH), by rw [upd_ne xml]; exact s6 _ _ hxb, a3, ⟨by rw [List.length_append, hM.len]; rfl, fun j n' z' hj hjt => ?_⟩, M4.vs.trans eV, M4.nd.trans eN, M4.s0.trans e0, fun m hm => by rw [M4.ps m (by rw [eV]; exact hm), hps' m hm, allOccs_take ht1]⟩
        rcases Nat.lt_or_ge j i with l | l
        · obtain ⟨c, cl', r1, r2, r3, r4⟩ := hM.row j n' z' l hjt
          have cml : c ≠ ml := fun e => by rw [e, del_same] at r2; cases r2
          rw [del_ne cml] at r2
          refine ⟨c, cl', by rw [List.getElem?_append_left (by rw [hM.len]; exact l)]; exact r1, ?_, r3, r4⟩
          rw [del_ne cml, upd_ne cml]
          exact s6 _ _ r2
        · have : j = i := by omega
          subst this
          rw [ht1] at hjt
          cases hjt
          refine ⟨q, cl, by rw [List.getElem?_append_right (by rw [hM.len]; exact l), hM.len, Nat.sub_self]; rfl, ?_, fun m => by rw [hcl m, eV], hcll⟩
          rw [del_ne qml, upd_ne qml, upd_ne (Ne.symm tq), upd_same]
    rintro σ H3 ⟨Hb, D', mrs, v3, v4, rfl, B', Sb, hxb, hmlL, hM, eV, eN, e0, hps'⟩
    rw [List.length_map] at hM hps'
    rw [List.take_length] at hps'
    -- the rows
    have IA : BInv (hsOf ts) (wds ts) D'.s0 D'.Vs D'.nd lab := by rw [eV, eN, e0]; exact I
    have hN : D'.Vs.length ≤ 641 := by rw [eV]; omega
    refine ⟨Nat.zero_le _, fun r0 hr0 => ?_⟩
    have B3 := B'.newB (o := .lst []) hr0
    have r0b : Hb r0 = none := B'.same.free hr0
    refine ⟨_, rfl, b, CB, _, _, _, rfl, B3.obj, TB.cl, TB.nodes, rfl, D'.nl, _, rfl, .inl (SqL.of B3.nodes), _, rfl, (by rw [List.length_map]; omega), (by rw [List.length_map]; omega), ?_⟩
    refine for_range (fun k σ H' => ∃ (Hk : Hp) (v6 v7 v8 v9 : Option V), σ = [some (.ref x), some (.ref a), some (.ref b), v3, v4, some (.ref r0), v6, v7, v8, v9, none] ∧ BOk CN CB Hk H' b D' ∧ Same Hb Hk ∧ LT Hk r0 ((List.range k).map (row4 D'.Vs D'.nd lab)))
      ⟨_, none, none, none, none, rfl, B3, same_upd r0b, ⟨[], upd_same, .nil⟩⟩ ?_ ?_
    · rintro k σ H4 hk ⟨Hk, v6, v7, v8, v9, rfl, B4, Sk, hLk⟩
      rw [Int.zero_add]
      rw [List.length_map] at hk
      have hk : k < D'.Vs.length := by simpa using hk
      obtain ⟨m, hm⟩ : ∃ m, D'.Vs[k]? = some m := ⟨_, List.getElem?_eq_getElem hk⟩
      have mV : m ∈ D'.Vs := List.mem_of_getElem? hm
      have hM := B4.inst k m hm
      refine ⟨_, rfl, b, CB, _, _, _, rfl, B4.obj, TB.cl, TB.nodes, rfl, _, rfl, D'.nl, _, _, _, rfl, rfl, SqL.of B4.nodes, atI_ref (i := k) (by omega) hm, ?_⟩
      refine ⟨fun σ' H' => H' = H4 ∧ σ' = [some (.ref x), some (.ref a), some (.ref b), v3, v4, some (.ref r0), some (.int (k : Nat)), some (.ref m), some (.str (toS (shOf D'.nd lab m))), some (.str (toS (lab m))), none], ?_, ?_⟩
      · refine ⟨_, rfl, m, CN, _, _, _, rfl, hM, TN.cl, TN.pair, rfl, rfl, _, rfl, ?_⟩
        have hpv := B4.pair m mV
        by_cases ms : m = D'.s0
        · have q1 : (D'.nd m).pair = none := by rw [ms]; exact IA.s0p
          rw [q1] at hpv
          have q2 : D'.pv m = .non := hpv
          have q3 : lab m = [] := by rw [ms]; exact IA.A.lab0
          refine if_neg_of (by rw [q2]; simp) ⟨rfl, ?_⟩
          have q4 : shOf D'.nd lab m = [] := by unfold shOf; rw [q3]; exact List.drop_nil
          rw [q4, q3]
          rfl
        · obtain ⟨n1, e, t, q1, q2, q3⟩ := IA.prs m mV ms
          rw [q1] at hpv
          obtain ⟨pt, q4, q5⟩ := hpv
          obtain ⟨⟨n, z⟩, q6, q7⟩ := List.mem_map.mp q2
          cases q7
          have q8 : txt ts n = some z := txt_of_mem hG.asc q6
          have q9 : strLen z ≤ 40 := hG.len _ q6
          have q31 : e ≤ z.cps.toList.length := q3.1
          have hz1 := szs_le IA.A mV
          have hz2 : (lab m).length ≤ e := by
            have := q3.2.length_le
            rw [List.length_take] at this
            omega
          have hte : (z.cps.toList.take e).length = e := by rw [List.length_take]; omega
          have hLa : LT H4 a (ts.map hrow) := hL0.same (Sb.trans (Sk.trans B4.same))
          refine if_pos_of (by rw [q4]; rfl) ?_
          refine ⟨_, rfl, _, rfl, m, CN, _, _, _, rfl, hM, TN.cl, TN.pair, rfl, _, rfl, Hk, b, D', _, _, lab, m, rfl, B4, IA.A, mV, ?_⟩
          refine ⟨a, pt, ts, n, e, szs D'.nd lab m, z, by rw [q4], hLa, q5, q8, by omega, by omega, ?_⟩
          refine ⟨_, rfl, _, rfl, m, CN, _, _, _, rfl, hM, TN.cl, TN.pair, rfl, _, rfl, m, CN, _, _, _, rfl, hM, TN.cl, TN.size, rfl, ?_⟩
          refine ⟨a, pt, ts, n, e, (D'.nd m).size, z, by rw [q4], hLa, q5, q8, by rw [IA.A.size m mV]; exact hz2, by omega, ⟨rfl, ?_⟩⟩
          have d1 := drop_suf q3.2 hz1
          have d2 := drop_suf q3.2 (Nat.le_refl _)
          rw [hte] at d1 d2
          rw [Nat.sub_self, List.drop_zero] at d2
          rw [IA.A.size m mV, d1, d2]
          rfl
      · rintro σ' H' ⟨rfl, rfl⟩
        obtain ⟨acc0, a0, _⟩ := id hLk
        have mlen : (lab m).length ≤ 1000 := by
          obtain ⟨t, ht, hl⟩ := (G.fac _ (I.A.sound m (by rw [← eV]; exact mV))).len
          rcases List.mem_cons.mp ht with e | ht
          · rw [e] at hl; exact Nat.le_trans hl (by decide)
          · obtain ⟨t', ht', rfl⟩ := List.mem_map.mp ht
            have : strLen t'.2 ≤ 40 := hG.len _ ht'
            exact Nat.le_trans hl (Nat.le_trans this (by decide))
        have shl : (shOf D'.nd lab m).length ≤ 1000 := by
          rw [shOf_len IA.A mV]
          exact Nat.le_trans (szs_le IA.A mV) mlen
        have tl : (toS (shOf D'.nd lab m)).length = (shOf D'.nd lab m).length := by show (shOf D'.nd lab m).toArray.size = _; simp
        refine ⟨_, rfl, .inl ⟨rfl, _, SqL.of (B4.same _ _ a0)⟩, _, rfl, _, rfl, small (by rw [tl]; omega), _, rfl, _, rfl, _, rfl, (by show 4 ≤ sizeLine; decide), fun t ht => ?_⟩
        obtain ⟨acc, a1, a2, a3⟩ := (hLk.same (same_upd (o := .tup (row4 D'.Vs D'.nd lab k)) (B4.same.free ht))).app (p := t) (r := row4 D'.Vs D'.nd lab k) upd_same
        have er : row4 D'.Vs D'.nd lab k = [.int ((toS (shOf D'.nd lab m)).length : Nat), .str (toS (shOf D'.nd lab m)), .int (k : Nat), .str (toS (lab m))] := by
          unfold row4
          rw [getD_of hm, tl]
        have B5 := B4.newB (o := .tup (row4 D'.Vs D'.nd lab k)) ht
        rw [List.length_map, List.length_range] at a2
        rw [← er]
        refine ⟨r0, acc, _, rfl, rfl, B5.same _ _ a1, smallLt (by rw [a2]; omega), ?_⟩
        have B6 := B5.base (x := r0) (o := .lst (acc ++ [.ref t])) a1 (fun r z => by cases z)
        refine ⟨_, _, _, _, _, rfl, B6, same_wr (Sk.trans (same_upd (B4.same.free ht))) r0b, ?_⟩
        rw [List.range_succ, List.map_append]
        exact a3
    rintro σ H4 ⟨Hk, v6, v7, v8, v9, rfl, B4, Sk, hLk⟩
    rw [List.length_map, Int.toNat_natCast] at hLk
    -- the rows, sorted
    have hx4 := B4.same _ _ (Sk _ _ hxb)
    refine ⟨Nat.zero_le _, fun rl hrl => ?_⟩
    have rlk : Hk rl = none := B4.same.free hrl
    have xrl : x ≠ rl := ne_of_none hx4 hrl
    refine ⟨_, rfl, x, CT, dxx, _, rfl, (by rw [upd_ne xrl]; exact hx4), TT.cl, TT.rows, (by show 1 < 1000; decide), ?_⟩
    have B5 := (B4.newB (o := .lst []) hrl).base (x := x) (o := .ins CT dxx (putF "rows" (.ref rl) [("marks", .ref ml)])) (by rw [upd_ne xrl]; exact Sk _ _ hxb) (fun r z => by cases z)
    have hr5 : LT (upd (upd H4 rl (.lst [])) x (.ins CT dxx (putF "rows" (.ref rl) [("marks", .ref ml)]))) r0 ((List.range D'.Vs.length).map (row4 D'.Vs D'.nd lab)) := by
      have h1 := (hLk.same B4.same).same (same_upd (o := .lst []) hrl)
      obtain ⟨qs, q1, q2⟩ := h1
      have hx5 : upd H4 rl (.lst []) x = some (.ins CT dxx [("marks", .ref ml)]) := by rw [upd_ne xrl]; exact hx4
      exact ⟨qs, by rw [upd_ne (ne_kind hx5 q1 (fun z => nomatch z))]; exact q1, paired_imp (fun p r e => by rw [upd_ne (ne_kind hx5 e (fun z => nomatch z))]; exact e) q2⟩
    refine ⟨_, rfl, r0, _, [false, true, false, true], rfl, hr5, by simp, fun r hr => ?_, fun qs rows' p hperm hpair hsort hp => ?_⟩
    · obtain ⟨k, _, rfl⟩ := List.mem_map.mp hr
      rfl
    obtain ⟨is, rfl, his⟩ := perm_map_ex hperm.symm rfl
    obtain ⟨PO, NO⟩ := num_of IA.A G B4.nodup his hsort
    generalize hord : (is.map fun k => D'.Vs.getD k 0) = ord at PO NO
    have B6 := B5.newB (o := .lst (qs.map V.ref)) hp
    have pk : Hk p = none := by
      cases q : Hk p with
      | none => rfl
      | some u =>
        have h4 := B4.same _ _ q
        by_cases e : p = x
        · rw [e, upd_same] at hp; cases hp
        · rw [upd_ne e, upd_ne (ne_of_none h4 hrl), h4] at hp; cases hp
    have px : p ≠ x := fun e => by rw [e, upd_same] at hp; cases hp
    have prl : p ≠ rl := fun e => by rw [e, upd_ne (Ne.symm xrl), upd_same] at hp; cases hp
    have sx : Same (del Hk x) (upd (upd Hk x (.ins CT dxx (putF "rows" (.ref rl) [("marks", .ref ml)]))) p (.lst (qs.map V.ref))) := fun c o e => by
      by_cases q : c = x
      · rw [q, del_same] at e; cases e
      · rw [del_ne q] at e
        rw [upd_ne (ne_of_none e pk), upd_ne q]; exact e
    have ss : Same (upd (upd Hk x (.ins CT dxx (putF "rows" (.ref rl) [("marks", .ref ml)]))) p (.lst (qs.map V.ref))) (upd (upd (upd Hk rl (.lst [])) x (.ins CT dxx (putF "rows" (.ref rl) [("marks", .ref ml)]))) p (.lst (qs.map V.ref))) := fun c o e => by
      by_cases q : c = p
      · rw [q, upd_same] at e ⊢; exact e
      · rw [upd_ne q] at e ⊢
        by_cases q2 : c = x
        · rw [q2, upd_same] at e ⊢; exact e
        · rw [upd_ne q2] at e ⊢
          rw [upd_ne (ne_of_none e rlk)]; exact e
    have rls : upd (upd Hk x (.ins CT dxx (putF "rows" (.ref rl) [("marks", .ref ml)]))) p (.lst (qs.map V.ref)) rl = none := by
      rw [upd_ne (Ne.symm prl), upd_ne (Ne.symm xrl)]; exact rlk
    have hxs : upd (upd Hk x (.ins CT dxx (putF "rows" (.ref rl) [("marks", .ref ml)]))) p (.lst (qs.map V.ref)) x = some (.ins CT dxx (putF "rows" (.ref rl) [("marks", .ref ml)])) := by
      rw [upd_ne (Ne.symm px), upd_same]
    have hpS : upd (upd Hk x (.ins CT dxx (putF "rows" (.ref rl) [("marks", .ref ml)]))) p (.lst (qs.map V.ref)) p = some (.lst (qs.map V.ref)) := upd_same
    have hrlb : (upd (upd (upd Hk rl (.lst [])) x (.ins CT dxx (putF "rows" (.ref rl) [("marks", .ref ml)]))) p (.lst (qs.map V.ref))) rl = some (.lst []) := by
      rw [upd_ne (Ne.symm prl), upd_ne (Ne.symm xrl), upd_same]
    generalize (upd (upd Hk x (.ins CT dxx (putF "rows" (.ref rl) [("marks", .ref ml)]))) p (.lst (qs.map V.ref))) = Hs at sx ss rls hxs hpS
    generalize (upd (upd (upd Hk rl (.lst [])) x (.ins CT dxx (putF "rows" (.ref rl) [("marks", .ref ml)]))) p (.lst (qs.map V.ref))) = Hb6 at ss B6 hrlb
    have hLp : LT (upd (upd (upd H4 rl (.lst [])) x (.ins CT dxx (putF "rows" (.ref rl) [("marks", .ref ml)]))) p (.lst (qs.map V.ref))) p (is.map (row4 D'.Vs D'.nd lab)) := ⟨qs, upd_same, paired_imp (fun c r e => same_upd hp _ _ e) hpair⟩
    generalize (upd (upd (upd H4 rl (.lst [])) x (.ins CT dxx (putF "rows" (.ref rl) [("marks", .ref ml)]))) p (.lst (qs.map V.ref))) = H6 at B6 hLp
    have hLp0 := tpOf_LT hLp
    obtain ⟨qs0, p1, _⟩ := id hLp
    have p2 : Hs p = some (.lst (qs0.map V.ref)) := by
      have e := B6.same _ _ (ss _ _ hpS)
      rw [p1] at e
      rw [hpS, ← Option.some.inj e]
    have ordl : ord.length = is.length := by rw [← hord, List.length_map]
    refine ⟨p, rfl, ⟨_, SqL.of hLp.choose_spec.1⟩, for_LT (K := K) hLp0 (fun j σ H' => ∃ (Hj : Hp) (Dj : BD) (v6 v8 v9 v10 : Option V), σ = [some (.ref x), some (.ref a), some (.ref b), v3, v4, some (.ref r0), v6, v7, v8, v9, v10] ∧ BOk CN CB Hj H' b Dj ∧ Same Hs Hj ∧ LT Hj rl ((ord.take j).map (rrow D'.nd lab)) ∧ Tups H6 H' ∧
        Dj.Vs = D'.Vs ∧ Dj.nd = D'.nd ∧ Dj.s0 = D'.s0 ∧ Dj.ps = D'.ps ∧ ∀ (i : Nat) (m : Addr), i < j → ord[i]? = some m → Dj.num m = (i : Nat))
      ⟨Hb6, D', _, _, _, _, rfl, B6, ss, ⟨[], hrlb, .nil⟩, fun _ _ h => h, rfl, rfl, rfl, rfl, fun i m h => by omega⟩ (fun i σ H' _ ⟨Hj, Dj, _, _, _, _, _, B, s1, _, t1, _⟩ => tpOf_same p1 (B.same _ _ (s1 _ _ p2)) t1) ?_ ?_⟩
    · rintro j r t0 σ H7 hj ht0 ⟨Hj, Dj, v6, v8, v9, v10, rfl, Bj, sj, hLj, tj, j1, j2, j3, j4, j5⟩
      rw [List.getElem?_map] at hj
      obtain ⟨k, hk, rfl⟩ := Option.map_eq_some_iff.mp hj
      have kN : k < D'.Vs.length := List.mem_range.mp (his.mem_iff.mp (List.mem_of_getElem? hk))
      obtain ⟨m, hm⟩ : ∃ m, D'.Vs[k]? = some m := ⟨_, List.getElem?_eq_getElem kN⟩
      have hom : ord[j]? = some m := by rw [← hord, List.getElem?_map, hk]; show some (D'.Vs.getD k 0) = _; rw [getD_of hm]
      have hmj : Dj.Vs[k]? = some m := by rw [j1]; exact hm
      have hjN : j < is.length := (List.getElem?_eq_some_iff.mp hk).1
      have hisl : is.length = D'.Vs.length := by rw [his.length_eq, List.length_range]
      obtain ⟨acc0, a0, _⟩ := id hLj
      refine g4 ht0 ?_
      have hxj := Bj.same _ _ (sj _ _ hxs)
      have hM := Bj.inst k m hmj
      refine ⟨_, rfl, x, CT, _, _, _, rfl, hxj, TT.cl, TT.rows, rfl, rl, _, rfl, .inl (SqL.of (Bj.same _ _ a0)), ?_⟩
      have al0 : (acc0.map V.ref).length = j := by
        rw [List.length_map]
        have := paired_len (hLj.choose_spec.2)
        obtain ⟨qs2, b1, b2⟩ := id hLj
        rw [b1] at a0
        have e2 : (qs2.map V.ref).length = (acc0.map V.ref).length := by rw [HO.lst.inj (Option.some.inj a0)]
        rw [List.length_map, List.length_map, paired_len b2, List.length_map, List.length_take] at e2
        omega
      rw [al0]
      refine ⟨_, rfl, b, CB, _, _, _, rfl, Bj.obj, TB.cl, TB.nodes, rfl, _, rfl, Dj.nl, _, _, _, rfl, rfl, SqL.of Bj.nodes, atI_ref (i := k) (by omega) hmj, m, CN, _, _, rfl, hM, TN.cl, TN.number, (by show 7 < 1000; decide), ?_⟩
      obtain ⟨D8, B8, U8, n8, nu8⟩ := Bj.setN (nu := (j : Nat)) hmj
      have B8' : BOk CN CB Hj (upd H7 m (.ins CN (Dj.dx m) (putF "number" (.int (j : Nat)) (nf k (Dj.ed m) (lkV (Dj.nd m).link) (Dj.nd m).size (Dj.pl m) (Dj.pv m) (Dj.num m))))) b D8 := B8
      have t8 : Tups H6 (upd H7 m (.ins CN (Dj.dx m) (putF "number" (.int (j : Nat)) (nf k (Dj.ed m) (lkV (Dj.nd m).link) (Dj.nd m).size (Dj.pl m) (Dj.pv m) (Dj.num m))))) := tj.upd fun r => by rw [hM]; exact fun z => nomatch z
      generalize (upd H7 m (.ins CN (Dj.dx m) (putF "number" (.int (j : Nat)) (nf k (Dj.ed m) (lkV (Dj.nd m).link) (Dj.nd m).size (Dj.pl m) (Dj.pv m) (Dj.num m))))) = H8 at B8' t8
      have hx8 := B8'.same _ _ (sj _ _ hxs)
      refine ⟨_, rfl, x, CT, _, _, _, rfl, hx8, TT.cl, TT.rows, rfl, .inl ⟨rfl, _, SqL.of (B8'.same _ _ a0)⟩, ?_⟩
      have hm8 : D8.Vs[k]? = some m := by rw [U8.vs]; exact hmj
      refine ⟨_, rfl, _, rfl, _, rfl, b, CB, _, _, _, rfl, B8'.obj, TB.cl, TB.nodes, rfl, _, rfl, D8.nl, _, _, _, rfl, rfl, SqL.of B8'.nodes, atI_ref (i := k) (by omega) hm8, (by show 3 ≤ sizeLine; decide), fun t ht => ?_⟩
      have hrr : rrow D'.nd lab m = [.str (toS (shOf D'.nd lab (D'.Vs.getD k 0))), .str (toS (lab (D'.Vs.getD k 0))), .ref m] := by unfold rrow; rw [getD_of hm]
      rw [← hrr]
      have B9 := B8'.newB (o := .tup (rrow D'.nd lab m)) ht
      have tHj : Hj t = none := B8'.same.free ht
      obtain ⟨acc, a1, a2, a3⟩ := (hLj.same (same_upd (o := .tup (rrow D'.nd lab m)) tHj)).app (p := t) (r := rrow D'.nd lab m) upd_same
      refine ⟨rl, acc, _, rfl, rfl, B9.same _ _ a1, smallLt (by rw [a2, List.length_map, List.length_take]; omega), ?_⟩
      have B10 := B9.base (x := rl) (o := .lst (acc ++ [.ref t])) a1 (fun r z => by cases z)
      refine ⟨_, D8, _, _, _, _, rfl, B10, same_wr (sj.trans (same_upd tHj)) rls, ?_, ?_, U8.vs.trans j1, n8.trans j2, U8.s0.trans j3, U8.ps.trans j4, fun i m' hi hm' => ?_⟩
      · rw [take_snoc hom, List.map_append]
        exact a3
      · exact (t8.upd fun r => by rw [ht]; exact fun z => nomatch z).upd fun r => by rw [B9.same _ _ a1]; exact fun z => nomatch z
      · rw [nu8]
        show (if m' = m then ((j : Nat) : Int) else Dj.num m') = _
        by_cases e : m' = m
        · subst e
          have hnd : ord.Nodup := PO.nodup_iff.mpr B4.nodup
          rw [if_pos rfl, nd_ix hnd hm' hom]
        · rw [if_neg e]
          refine j5 i m' ?_ hm'
          rcases Nat.lt_or_ge i j with l | l
          · exact l
          · have : i = j := by omega
            subst this
            rw [hom] at hm'
            exact absurd (Option.some.inj hm').symm e
    · rintro σ H7 ⟨Hj, Dj, v6, v8, v9, v10, rfl, Bj, sj, hLj, tj, j1, j2, j3, j4, j5⟩
      rw [List.length_map, ← ordl, List.take_length] at hLj
      have s9 : Same (del Hk x) H7 := sx.trans (sj.trans Bj.same)
      refine hQ H7 Hj b Dj lab ord ⟨Bj, by rw [j1]; exact hN, by rw [j1, j2, j3]; exact IA, by rw [j1]; exact PO, NO, fun i m h => j5 i m (by rw [List.length_map, ← ordl]; exact (List.getElem?_eq_some_iff.mp h).1) h, fun m hm => by rw [j4]; exact hps' m (by rw [← eV, ← j1]; exact hm), dxx, ml, rl, mrs, Bj.same _ _ (sj _ _ hxs), by rw [j2]; exact hLj.same Bj.same, ?_, ?_⟩ ?_
      · have h1 := hmlL.same Sk
        have hkx := Sk _ _ hxb
        obtain ⟨qs, q1, q2⟩ := h1
        exact LT.same ⟨qs, by rw [del_ne (ne_kind hkx q1 (fun z => nomatch z))]; exact q1, paired_imp (fun p r e => by rw [del_ne (ne_kind hkx e (fun z => nomatch z))]; exact e) q2⟩ s9
      · refine ⟨hM.len, fun j n z hj h => ?_⟩
        obtain ⟨c, cl, r1, r2, r3, r4⟩ := hM.row j n z hj h
        have cml : c ≠ ml := fun e => by rw [e, del_same] at r2; cases r2
        rw [del_ne cml] at r2
        have hkx := Sk _ _ hxb
        have r5 := Sk _ _ r2
        exact ⟨c, cl, r1, s9 _ _ (by rw [del_ne (ne_kind hkx r5 (fun z => nomatch z))]; exact r5), fun m => by rw [r3 m, j1, eV], r4⟩
      · refine Same.trans (fun c o e => ?_) (sx.trans sj)
        by_cases q : c = x
        · rw [q, del_same] at e; cases e
        · have e' := Sk _ _ (Sb _ _ e)
          rw [del_ne q]; exact e'
end
end Sfx
end
section
set_option Elab.async false
set_option linter.all false
set_option maxRecDepth 100000
set_option maxHeartbeats 4000000
namespace Sfx
open PySem PySem.Spec L2
theorem dc_keys {d : Addr} {o : Obj} {kvs : List (Key × V)} {g : TG} {tt : TT} {tk tv : TE} {vs : List Nat} {σ : St} {H1 : Hp} {D : Addr} {Qd : Hp → Prop} (Pv : Nat → Hp → Prop) (h0 : Pv 0 (upd H1 D (.dK []))) (hl : ∀ i H, i ≤ kvs.length → Pv i H → H d = some (.frz o (.dK kvs)))
    (hs : ∀ i k v H, kvs[i]? = some (k, v) → Pv i H → g (kV k) (wipe σ vs) H fun σ2 H2 => wipe σ2 vs = wipe σ vs ∧ tt σ2 H2 fun b H3 =>
      if b = true then tk σ2 H3 fun y H4 => tv σ2 H4 fun z H5 => ∃ kvs k, y = kV k ∧ H5 D = some (.dK kvs) ∧ kvs.length < sizeLine ∧ Pv (i + 1) (upd H5 D (.dK (putK kvs k z))) else Pv (i + 1) H3) (hd : ∀ H, Pv kvs.length H → Qd H) :
    ∃ W : Nat → Nat → Hp → Prop, (∃ m, W 0 m (upd H1 D (.dK []))) ∧ ∀ i m H, W i m H →
      ((Itk d o kvs).stop i H ∧ Qd H) ∨ ((Itk d o kvs).go i H ∧ ∃ Nx : Hp → Prop, (∀ H', Nx H' → ∃ m', m' < m ∧ W (i + 1) m' H') ∧ ∀ x H', (Itk d o kvs).yld i H x H' → g x (wipe σ vs) H' fun σ2 H2 => wipe σ2 vs = wipe σ vs ∧ tt σ2 H2 fun b H3 =>
        if b = true then tk σ2 H3 fun y H4 => tv σ2 H4 fun z H5 => ∃ kvs k, y = kV k ∧ H5 D = some (.dK kvs) ∧ kvs.length < sizeLine ∧ Nx (upd H5 D (.dK (putK kvs k z))) else Nx H3) := by
  refine ⟨fun i m H => m = kvs.length - i ∧ i ≤ kvs.length ∧ Pv i H, ⟨_, rfl, Nat.zero_le _, h0⟩, ?_⟩
  rintro i m H ⟨rfl, hi, p⟩
  by_cases hlt : i < kvs.length
  · refine .inr ⟨⟨hl i H hi p, hlt⟩, Pv (i + 1), fun H' p' => ⟨kvs.length - (i + 1), by omega, rfl, hlt, p'⟩, fun x H' y => ?_⟩
    obtain ⟨e, k, v, hk, ex⟩ := y
    subst e ex
    exact hs i k v _ hk p
  · have e : i = kvs.length := by omega
    subst e
    exact .inl ⟨⟨hl _ H hi p, Nat.le_refl _⟩, hd H p⟩
theorem pe_fldK (K : PySem.W.Frag) {X : Cx} {e : Expr} {f : Str} {pos : Pos} {ta : TE} (he : PE X e ta) (hb : attributeBase e f X.env (eval e X.env) = eval e X.env) (h : X.K = K := by rfl) : PE X (.Attribute e f pos) (tFld K ta f) := by
  subst h; exact pe_fld he hb
theorem upd_back {H : Hp} {d D : Addr} {u f o : HO} (h : H d = some u) (ne : D ≠ d) : upd (upd (upd H d f) D o) d u = upd H D o := by
  funext c
  by_cases e : c = d
  · rw [e, upd_same, upd_ne (Ne.symm ne)]; exact h.symm
  · rw [upd_ne e]
    by_cases g : c = D
    · rw [g, upd_same, upd_same]
    · rw [upd_ne g, upd_ne g, upd_ne e]
def kv0 (nd : Nat → Nd) (num : Nat → Int) (m : Nat) : List (Key × V) := (nd m).edges.map fun q => (Sum.inr (sgn q.1), V.int (num q.2))
theorem valV_kv (num : Nat → Int) (es : List (Nat × Nat)) (c : Nat) : valV (es.map fun q => ((Sum.inr (sgn q.1) : Key), V.int (num q.2))) (Sum.inr (sgn c)) = (look es c).map fun k => V.int (num k) := by
  induction es with
  | nil => rfl
  | cons q r ih =>
    rw [List.map_cons, look_cons]
    by_cases e : q.1 = c
    · rw [if_pos e, valV_pos (by rw [e])]; rfl
    · rw [if_neg e, valV_neg (fun z => e (sgn_inj (Sum.inr.inj z))), ih]
theorem kv_keys (num : Nat → Int) (es : List (Nat × Nat)) : (es.map fun q => ((Sum.inr (sgn q.1) : Key), V.int (num q.2))).map (·.1) = (es.map (·.1)).map fun c => (Sum.inr (sgn c) : Key) := by
  rw [List.map_map, List.map_map]; rfl
theorem kv_nodup (num : Nat → Int) {es : List (Nat × Nat)} (h : (es.map (·.1)).Nodup) : ((es.map fun q => ((Sum.inr (sgn q.1) : Key), V.int (num q.2))).map (·.1)).Nodup := by
  rw [kv_keys, List.Nodup, List.pairwise_map]
  exact h.imp fun ne e => ne (sgn_inj (Sum.inr.inj e))
theorem kv_step (num : Nat → Int) {es : List (Nat × Nat)} (h : (es.map (·.1)).Nodup) {i c k : Nat} (hi : es[i]? = some (c, k)) :
    putK ((es.take i).map fun q => ((Sum.inr (sgn q.1) : Key), V.int (num q.2))) (Sum.inr (sgn c)) (V.int (num k)) = (es.take (i + 1)).map fun q => ((Sum.inr (sgn q.1) : Key), V.int (num q.2)) := by
  rw [take_snoc hi, List.map_append]
  refine putK_new _ ?_
  rw [valV_kv]
  cases q : look (es.take i) c with
  | none => rfl
  | some j =>
    exfalso
    have hc : c ∈ (es.take i).map (·.1) := look_mem.mp (by rw [q]; rfl)
    rw [List.map_take] at hc
    obtain ⟨j', hj, ej⟩ := List.mem_iff_getElem.mp hc
    rw [List.length_take, List.length_map] at hj
    rw [List.getElem_take] at ej
    have h1 : (es.map (·.1))[i]? = some c := by rw [List.getElem?_map, hi]; rfl
    have h2 : (es.map (·.1))[j']? = some c := by rw [← ej]; exact List.getElem?_eq_getElem _
    have := nd_ix h h1 h2
    omega
theorem look_get {es : List (Nat × Nat)} (h : (es.map (·.1)).Nodup) {i c k : Nat} (hi : es[i]? = some (c, k)) : look es c = some k := by
  induction es generalizing i with
  | nil => simp at hi
  | cons q r ih =>
    rw [look_cons]
    rw [List.map_cons, List.nodup_cons] at h
    cases i with
    | zero =>
      simp at hi
      subst hi
      rw [if_pos rfl]
    | succ i =>
      simp at hi
      rw [if_neg fun e => h.1 ?_]
      · exact ih h.2 hi
      · rw [e]
        exact List.mem_map.mpr ⟨(c, k), List.mem_of_getElem? hi, rfl⟩
theorem upd_twice {H : Hp} {a : Addr} {o u : HO} : upd (upd H a o) a u = upd H a u := by
  funext c
  by_cases e : c = a
  · rw [e, upd_same, upd_same]
  · rw [upd_ne e, upd_ne e, upd_ne e]
/-- the dict of a state with the marks P -/
structure DP (base : List (Key × V)) (last : Nat) (Pm : Int → Prop) (kvs : List (Key × V)) : Prop where
  nodup : (kvs.map (·.1)).Nodup
  str : ∀ s, valV kvs (.inr s) = valV base (.inr s)
  yes : ∀ n, Pm n → valV kvs (.inl n) = some (.int (last : Nat))
  no : ∀ n, (valV kvs (.inl n)).isSome = true → Pm n
theorem nd_put {kvs : List (Key × V)} {k : Key} {v : V} (h : (kvs.map (·.1)).Nodup) : ((putK kvs k v).map (·.1)).Nodup := by
  cases q : valV kvs k with
  | none => exact nd_putK v h q
  | some u =>
    unfold putK
    rw [valV_any, q, if_pos (by rfl), List.map_map]
    have : ((fun kv : Key × V => kv.1) ∘ fun kv : Key × V => if kv.1 = k then (kv.1, v) else kv) = fun kv => kv.1 := by
      funext kv
      show (if kv.1 = k then (kv.1, v) else kv).1 = kv.1
      by_cases e : kv.1 = k
      · rw [if_pos e]
      · rw [if_neg e]
    rw [this]; exact h
theorem DP.put {base kvs : List (Key × V)} {last : Nat} {Pm Pm' : Int → Prop} {n : Int} (h : DP base last Pm kvs) (hP : ∀ k, Pm' k ↔ Pm k ∨ k = n) : DP base last Pm' (putK kvs (.inl n) (.int (last : Nat))) where
  nodup := nd_put h.nodup
  str := fun s => by rw [valV_put, if_neg (fun e => by cases e)]; exact h.str s
  yes := fun k hk => by
    rw [valV_put]
    by_cases e : k = n
    · rw [if_pos (by rw [e])]
    · rw [if_neg (fun z => e (Sum.inl.inj z))]
      exact h.yes k (((hP k).mp hk).resolve_right e)
  no := fun k hk => by
    rw [valV_put] at hk
    by_cases e : k = n
    · exact (hP k).mpr (.inr e)
    · rw [if_neg (fun z => e (Sum.inl.inj z))] at hk
      exact (hP k).mpr (.inl (h.no k hk))
theorem DP.congr {base kvs : List (Key × V)} {last : Nat} {Pm Pm' : Int → Prop} (h : DP base last Pm kvs) (hP : ∀ k, Pm' k ↔ Pm k) : DP base last Pm' kvs :=
  ⟨h.nodup, h.str, fun n q => h.yes n ((hP n).mp q), fun n q => (hP n).mpr (h.no n q)⟩
open Classical in
/-- what is new in H', and the tuples -/
noncomputable def nt (H H' : Hp) : Hp := fun c => if H c = none ∨ (∃ r, H' c = some (.tup r)) then H' c else none
theorem nt_new {H H' : Hp} {c : Addr} (h : H c = none) : nt H H' c = H' c := if_pos (.inl h)
theorem nt_tup {H H' : Hp} {c : Addr} {r : List V} (h : H' c = some (.tup r)) : nt H H' c = some (.tup r) := by unfold nt; rw [if_pos (.inr ⟨r, h⟩)]; exact h
theorem nt_LT {H H' : Hp} {a : Addr} {rows : List (List V)} (h : LT H' a rows) (ha : H a = none) : LT (nt H H') a rows := by
  obtain ⟨qs, q1, q2⟩ := h
  exact ⟨qs, by rw [nt_new ha]; exact q1, paired_imp (fun _ _ e => nt_tup e) q2⟩
theorem nt_same {H H' : Hp} : Same (nt H H') H' := fun c o e => by
  unfold nt at e
  split at e
  · exact e
  · cases e
/-- the row of the machine for the word v -/
structure DOk (ts : List (Int × Str)) (L : List W) (v : W) (kvs : List (Key × V)) : Prop where
  nodup : (kvs.map (·.1)).Nodup
  c1 : ∀ (c j : Nat) (y : W), Fac (wds ts) (v ++ [c]) → Ext (Can (wds ts)) (v ++ [c]) y → L[j]? = some y → valV kvs (.inr (sgn c)) = some (.int (j : Nat))
  c2 : ∀ s : Str, (valV kvs (.inr s)).isSome = true → ∃ c, s = sgn c ∧ Fac (wds ts) (v ++ [c])
  m1 : ∀ n z, (n, z) ∈ ts → v <:+ z.cps.toList → valV kvs (.inl n) = some (.int (L.length : Nat))
  m2 : ∀ n, (valV kvs (.inl n)).isSome = true → ∃ z, (n, z) ∈ ts ∧ v <:+ z.cps.toList
structure MachAt (H : Hp) (l : Addr) (ts : List (Int × Str)) (L : List W) : Prop where
  len : L.length ≤ 700
  ex : ∃ es : List Addr, H l = some (.lst (es.map V.ref)) ∧ es.length = L.length + (if ts = [] then 0 else 1) ∧ (∀ (i : Nat) (v : W), L[i]? = some v → ∃ e kvs, es[i]? = some e ∧ H e = some (.dK kvs) ∧ DOk ts L v kvs) ∧ (ts ≠ [] → ∃ e, es[L.length]? = some e ∧ H e = some (.dK []))
theorem MachAt.same {H H' : Hp} {l : Addr} {ts : List (Int × Str)} {L : List W} (M : MachAt H l ts L) (s : Same H H') : MachAt H' l ts L := by
  obtain ⟨es, h1, h2, h3, h4⟩ := M.ex
  exact ⟨M.len, es, s _ _ h1, h2, fun i v h => let ⟨e, kvs, a, b, c⟩ := h3 i v h; ⟨e, kvs, a, s _ _ b, c⟩, fun q => let ⟨e, a, b⟩ := h4 q; ⟨e, a, s _ _ b⟩⟩
end Sfx
end
section
set_option Elab.async false
set_option linter.all false
set_option maxRecDepth 100000
set_option maxHeartbeats 4000000
namespace Sfx
open PySem PySem.Spec L2
section
variable {P : Program} {w : World} {K : PySem.W.Frag} {mg : Str → Option Value} {base : Heap} {ec : Nat → Addr} {CN CB CT : Addr}
theorem del2_same {H H1 : Hp} {x dx C : Addr} (nx : H x = none) (ndx : H dx = none) (s : Same (del (upd (upd H dx (.own x)) x (.ins C dx [])) x) H1) : Same H H1 := fun c o e => by
  have n1 := ne_of_none e nx
  have n2 := ne_of_none e ndx
  exact s c o (by rw [del_ne n1, upd_ne n1, upd_ne n2]; exact e)
/-- the dicts of the states, with the marks Pm -/
def Dk (H : Hp) (es ord : List Addr) (nd : Nat → Nd) (num : Nat → Int) (last : Nat) (Pm : Addr → Int → Prop) (N : Nat) : Prop :=
  ∀ (j : Nat) (e m : Addr), es[j]? = some e → ord[j]? = some m → ∃ kvs, H e = some (.dK kvs) ∧ DP (kv0 nd num m) last (Pm m) kvs ∧ kvs.length ≤ N
theorem Dk.imp {H : Hp} {es ord : List Addr} {nd : Nat → Nd} {num : Nat → Int} {last : Nat} {Pm Pm' : Addr → Int → Prop} {N N' : Nat} (h : Dk H es ord nd num last Pm N) (hn : N ≤ N') (hP : ∀ m ∈ ord, ∀ n, Pm' m n ↔ Pm m n) : Dk H es ord nd num last Pm' N' := fun j e m hj hm => by
  obtain ⟨kvs, a, b, c⟩ := h j e m hj hm
  exact ⟨kvs, a, b.congr (hP m (List.mem_of_getElem? hm)), by omega⟩
theorem Dk.put {H : Hp} {es ord : List Addr} {nd : Nat → Nd} {num : Nat → Int} {last : Nat} {Pm Pm' : Addr → Int → Prop} {N : Nat} (h : Dk H es ord nd num last Pm N) (hn : es.Nodup) (ho : ord.Nodup) {j0 : Nat} {e0 m0 : Addr} {n : Int} {kvs : List (Key × V)} (he : es[j0]? = some e0) (hm : ord[j0]? = some m0)
    (hk : H e0 = some (.dK kvs)) (h1 : ∀ k, Pm' m0 k ↔ Pm m0 k ∨ k = n) (h2 : ∀ m, m ≠ m0 → ∀ k, Pm' m k ↔ Pm m k) : Dk (upd H e0 (.dK (putK kvs (.inl n) (.int (last : Nat))))) es ord nd num last Pm' (N + 1) := fun j e m hj hm' => by
  obtain ⟨kvs', a, b, c⟩ := h j e m hj hm'
  by_cases q : j = j0
  · subst q
    rw [he] at hj; cases hj
    rw [hm] at hm'; cases hm'
    rw [hk] at a; cases a
    exact ⟨_, upd_same, b.put h1, Nat.le_trans (length_putK _ _ _) (by omega)⟩
  · have ne : e ≠ e0 := fun z => q (nd_ix hn (z ▸ hj) he)
    have nm : m ≠ m0 := fun z => q (nd_ix ho (z ▸ hm') hm)
    exact ⟨kvs', by rw [upd_ne ne]; exact a, b.congr (h2 m nm), by omega⟩
def Pmk (ts : List (Int × Str)) (lab : Nat → W) (i : Nat) (m : Addr) (n : Int) : Prop := ∃ (j : Nat) (z : Str), j < i ∧ ts[j]? = some (n, z) ∧ lab m <:+ z.cps.toList
theorem machAt_of {CN CB CT : Addr} {ts : List (Int × Str)} {Hb H1 H' : Hp} {x b el : Addr} {D : BD} {lab : Nat → W} {ord es es' : List Addr} {N : Nat} (Bl : Blt CN CB CT ts Hb H1 x b D lab ord) (hl : H' el = some (.lst (es'.map V.ref))) (hes : es.length = ord.length)
    (he : ts = [] ∧ es' = es ∨ ts ≠ [] ∧ ∃ e, es' = es ++ [e] ∧ H' e = some (.dK [])) (hd : Dk H' es ord D.nd D.num ord.length (Pmk ts lab ts.length) N) : MachAt H' el ts (ord.map lab) := by
  have A := Bl.I.A
  refine ⟨by rw [List.length_map, Bl.perm.length_eq]; exact Nat.le_trans Bl.vlen (by decide), es', hl, ?_, fun i v hv => ?_, fun ne => ?_⟩
  · rw [List.length_map]
    rcases he with ⟨h1, h2⟩ | ⟨h1, e, h2, _⟩
    · rw [h2, if_pos h1, hes, Nat.add_zero]
    · rw [h2, if_neg h1, List.length_append, hes]; rfl
  · rw [List.getElem?_map] at hv
    obtain ⟨m, hm, rfl⟩ := Option.map_eq_some_iff.mp hv
    have hi : i < es.length := by rw [hes]; exact (List.getElem?_eq_some_iff.mp hm).1
    have hei : es[i]? = some es[i] := List.getElem?_eq_getElem hi
    obtain ⟨kvs, k1, k2, _⟩ := hd i _ m hei hm
    have mV : m ∈ D.Vs := Bl.perm.mem_iff.mp (List.mem_of_getElem? hm)
    refine ⟨es[i], kvs, ?_, k1, ⟨k2.nodup, fun c j y hf hy hj => ?_, fun s hs => ?_, fun n z hz hs => ?_, fun n hn => ?_⟩⟩
    · rcases he with ⟨_, h2⟩ | ⟨_, e, h2, _⟩
      · rw [h2]; exact hei
      · rw [h2, List.getElem?_append_left hi]; exact hei
    · rw [List.getElem?_map] at hj
      obtain ⟨m2, hm2, e2⟩ := Option.map_eq_some_iff.mp hj
      obtain ⟨k, hk, _⟩ := A.edgeF m mV c hf
      obtain ⟨q1, _, q2⟩ := A.edge m mV c k hk (fun z => nomatch z)
      have mV2 : m2 ∈ D.Vs := Bl.perm.mem_iff.mp (List.mem_of_getElem? hm2)
      have e3 : k = m2 := A.inj k q1 m2 mV2 (by rw [e2]; exact q2.uniq hy)
      rw [k2.str]
      unfold kv0
      rw [valV_kv, hk, e3]
      show some (V.int (D.num m2)) = _
      rw [Bl.nums j m2 hm2]
    · rw [k2.str] at hs
      unfold kv0 at hs
      obtain ⟨v, hv⟩ := Option.isSome_iff_exists.mp hs
      have h3 := valV_in hv
      rw [kv_keys, List.mem_map] at h3
      obtain ⟨c, hc, e⟩ := h3
      have e' : s = sgn c := (Sum.inr.inj e).symm
      subst e'
      obtain ⟨k, hk⟩ := Option.isSome_iff_exists.mp (look_mem.mpr hc)
      exact ⟨c, rfl, (A.edge m mV c k hk (fun z => nomatch z)).2.1⟩
    · rw [List.length_map]
      obtain ⟨j, hj⟩ := List.getElem?_of_mem hz
      exact k2.yes n ⟨j, z, (List.getElem?_eq_some_iff.mp hj).1, hj, hs⟩
    · obtain ⟨j, z, _, hj, hs⟩ := k2.no n hn
      exact ⟨z, List.mem_of_getElem? hj, hs⟩
  · rcases he with ⟨h1, _⟩ | ⟨_, e, h2, h3⟩
    · exact absurd h1 ne
    · refine ⟨e, ?_, h3⟩
      rw [h2, List.length_map, List.getElem?_append_right (by omega), hes, Nat.sub_self]
      rfl
abbrev s_machine : Stmt := topS 33
abbrev N_machine : List Str := ["house", "built", "edges", "_", "node", "last", "number", "chain", "letter"]
theorem sc_machine : FnScope ["house", "built", "edges", "_", "node", "last", "number", "chain", "letter"] ["house"] (defScope s_machine) := ⟨rfl, rfl, rfl, by decide +kernel, rfl, by decide +kernel, by decide +kernel⟩
def sp_machine : Sp := fun vs H Q _ => ∃ (a : Addr) (ts : List (Int × Str)), vs = [.ref a] ∧ LT H a (ts.map hrow) ∧ GoodTs ts ∧ ∀ H' l L, Same H H' → H l = none → IsNum (Can (wds ts)) L → MachAt (nt H H') l ts L → Q (.ref l) H'
theorem ok_machine {f : Addr} {fd : FuncData} (F : Fun K "machine" "machine" s_machine f fd) (T : Txt mg) (TN : TxtN K CN) (TT : TxtT K CT)
    (h_Built : HasC P w K mg base CX0 "Built" CT 7 ["self", "house"] (sp_Built_init CN CB CT)) : FnOk P w K mg base CX0 9 f fd ["house"] sp_machine := by
  refine F.ok sc_machine (fun vs H Q E h => ?_) (fun cdv A outer s H vs Q E hr h => ?_)
  · obtain ⟨a, ts, rfl, _⟩ := h
    rfl
  · obtain ⟨a, ts, rfl, hL, hG, hQ⟩ := h
    have hu := hu_of hr
    refine ⟨_, (pss_cons (ps_set (i := 1) sc_machine.nd rfl (Or.inl rfl) (pe_makeG h_Built (hr.mono (by decide)) (pa_cons (pv 0) pa_nil)))
      (pss_cons (ps_set (i := 2) sc_machine.nd rfl (Or.inl rfl) (pe_lst pa_nil))
      (pss_cons (ps_for PassesOwn.never rfl (pi_list (pe_fld (pv 1) rfl)) (pg_tup rfl (pgs_cons (pg_name (i := 3) sc_machine.nd rfl (Or.inl rfl)) (pgs_cons (pg_name (i := 3) sc_machine.nd rfl (Or.inl rfl)) (pgs_cons (pg_name (i := 4) sc_machine.nd rfl (Or.inr rfl)) pgs_nil))))
      (pss_one (ps_expr (pe_bm PySem.F.plainAttrs_list PySem.F.slot_list_append PySem.F.type_list_append mt_append (pv 2) (pa_cons (pe_lock (pe_dc (own := [("letter", 8)]) (g := (gName 8)) (tt := tYes) rfl sc_machine.nd (pi_keys (pe_fld (pv 4) rfl)) (blkOk_by (own := [("letter", 8)]) (N := N_machine) (sc := defScope s_machine) (by decide +kernel)) (fun _ _ _ _ _ => (pg_name (i := 8) sc_machine.nd rfl (Or.inl rfl))) (fun _ _ _ _ _ => pts_nil) (fun _ _ _ _ _ => (pv 8)) (fun _ _ _ _ _ => (pe_fldK K (pe_dget (by exact hu) (pe_fldK K (pv 4) rfl) (pv 8) (fun _ _ => rfl)) rfl)))) pa_nil)))))
      (pss_cons (ps_set (i := 5) sc_machine.nd rfl (Or.inl rfl) (pe_callB (lenQ K) (by rfl) T.len (by decide +kernel) (pa_cons (pv 2) pa_nil)))
      (pss_cons (ps_for PassesOwn.never rfl (pi_list (pe_fld (pv 1) rfl)) (pg_tup rfl (pgs_cons (pg_name (i := 6) sc_machine.nd rfl (Or.inl rfl)) (pgs_cons (pg_name (i := 7) sc_machine.nd rfl (Or.inl rfl)) pgs_nil)))
      (pss_one (ps_for PassesOwn.never rfl (pi_list (pv 7)) (pg_name (i := 4) sc_machine.nd rfl (Or.inr rfl))
      (pss_one (ps_dput hu (pe_ix (ixL K) (pv 2) (pe_fld (pv 4) rfl) (fun _ _ => rfl)) (pv 6) (pv 5) rfl)))))
      (pss_cut (ps_if (pt_cmpR op_gt (pe_callB (lenQ K) (by rfl) T.len (by decide +kernel) (pa_cons (pv 0) pa_nil)) pe_int (nomark _))
      (pss_one (ps_expr (pe_bm PySem.F.plainAttrs_list PySem.F.slot_list_append PySem.F.type_list_append mt_append (pv 2) (pa_cons pe_dnewK pa_nil))))
      pss_nil)
      (pss_one (ps_ret (pv 2))))))))), ?_⟩
    refine ⟨_, rfl, ?_⟩
    intro x dx nx ndx nex
    have sA : Same H (upd (upd H dx (.own x)) x (.ins CT dx [])) := same_to (same_upd ndx) (by rw [upd_ne (Ne.symm nex)]; exact nx)
    refine ⟨a, x, dx, ts, rfl, upd_same, hL.same sA, hG, fun H1 Hb b D lab ord Bl s1 => ⟨rfl, ?_⟩⟩
    have s1 := s1.trans Bl.B.same
    have sH1 := del2_same nx ndx s1
    obtain ⟨dxx, ml, rl, mrs, hx, hrl, hml, hM⟩ := Bl.obj
    have B := Bl.B
    have A := Bl.I.A
    refine ⟨Nat.zero_le _, fun el hel => ⟨_, rfl, x, CT, dxx, _, _, rfl, same_upd hel _ _ hx, TT.cl, TT.rows, rfl, rl, rfl, ⟨_, SqL.of (same_upd hel _ _ hrl.choose_spec.1)⟩, ?_⟩⟩
    have S1 : Same H1 (upd H1 el (.lst [])) := same_upd hel
    have elH : H el = none := sH1.free hel
    refine for_LT (K := K) hrl (fun i σ H' => ∃ (es : List Addr) (v3 v4 v8 : Option V), σ = [some (.ref a), some (.ref x), some (.ref el), v3, v4, none, none, none, v8] ∧ Same H1 H' ∧ H' el = some (.lst (es.map V.ref)) ∧ es.length = i ∧ es.Nodup ∧ ∀ (j : Nat) (e m : Addr), es[j]? = some e → ord[j]? = some m → H1 e = none ∧ e ≠ el ∧ H' e = some (.dK (kv0 D.nd D.num m)))
      ⟨[], none, none, none, rfl, S1, upd_same, rfl, List.nodup_nil, fun j e m h => by simp at h⟩ (fun i σ H' _ ⟨_, _, _, _, _, s, _⟩ => s) ?_ ?_
    · rintro i r p σ H2 hi hp ⟨es, v3, v4, v8, rfl, s2, hel2, hes, hnd, hde⟩
      rw [List.getElem?_map] at hi
      obtain ⟨m, hom, rfl⟩ := Option.map_eq_some_iff.mp hi
      have mV : m ∈ D.Vs := Bl.perm.mem_iff.mp (List.mem_of_getElem? hom)
      obtain ⟨im, him, hMm⟩ := B.at mV
      have hM2 := s2 _ _ hMm
      have hE2 := s2 _ _ (B.edges m mV)
      refine g3 hp ?_
      refine ⟨_, rfl, .inl ⟨rfl, _, SqL.of hel2⟩, ?_⟩
      refine ⟨D.ed m, .dK (ekv (D.nd m).edges), hE2, trivial, fun od => ?_⟩
      have med : m ≠ D.ed m := ne_kind hE2 hM2 (fun z => nomatch z)
      have hMf : upd H2 (D.ed m) (.frz od (.dK (ekv (D.nd m).edges))) m = some (.ins CN (D.dx m) (nf im (D.ed m) (lkV (D.nd m).link) (D.nd m).size (D.pl m) (D.pv m) (D.num m))) := (upd_ne med).trans hM2
      refine ⟨_, rfl, m, CN, _, _, _, rfl, hMf, TN.cl, TN.edges, rfl, D.ed m, od, rfl, .inl ⟨_, upd_same, fun Dd hDd => ?_⟩⟩
      have Dne : Dd ≠ D.ed m := fun e => by rw [e, upd_same] at hDd; cases hDd
      have hD2 : H2 Dd = none := by rw [upd_ne Dne] at hDd; exact hDd
      refine dc_keys (fun i H' => H' = upd (upd H2 (D.ed m) (.frz od (.dK (ekv (D.nd m).edges)))) Dd (.dK (((D.nd m).edges.take i).map fun q => (Sum.inr (sgn q.1), V.int (D.num q.2))))) rfl (fun i H' _ e => by rw [e, upd_ne (Ne.symm Dne), upd_same]) ?_ ?_
      · rintro i2 k v H' hk rfl
        have hk' : (ekv (D.nd m).edges)[i2]? = some (k, v) := hk
        unfold ekv at hk'
        rw [List.getElem?_map] at hk'
        obtain ⟨⟨c, k2⟩, hq, e⟩ := Option.map_eq_some_iff.mp hk'
        have ek : (Sum.inr (sgn c) : Key) = k := congrArg Prod.fst e
        subst ek
        have hlk := look_get (A.keys m mV) hq
        have kV2 : k2 ∈ D.Vs := (A.edge m mV c k2 hlk (fun z => nomatch z)).1
        obtain ⟨ik, hik, hK⟩ := B.at kV2
        have hK2 := s2 _ _ hK
        have keep : ∀ {y : Addr} {u : HO}, H2 y = some u → y ≠ D.ed m → ∀ o1 o2, upd (upd H2 (D.ed m) o1) Dd o2 y = some u := fun h n o1 o2 => by rw [upd_ne (ne_of_none h hD2), upd_ne n]; exact h
        refine ⟨rfl, ⟨_, rfl, _, rfl, m, CN, _, _, _, rfl, keep hM2 med _ _, TN.cl, TN.edges, rfl, _, rfl, D.ed m, V.ref k2, rfl, .inl ⟨_, .inr (sgn c), .inr ⟨od, by rw [upd_ne (Ne.symm Dne), upd_same]⟩, rfl, by rw [valV_ekv, hlk]; rfl⟩, ?_⟩⟩
        refine ⟨k2, CN, _, _, _, rfl, keep hK2 (ne_kind hE2 hK2 (fun z => nomatch z)) _ _, TN.cl, TN.number, rfl, _, .inr (sgn c), rfl, upd_same, ?_, ?_⟩
        · rw [List.length_map, List.length_take]
          have := B.elen m mV
          exact smallLt (by omega)
        · rw [upd_twice, kv_step D.num (A.keys m mV) hq]
      · rintro H' rfl
        refine ⟨by rw [upd_ne (Ne.symm Dne), upd_same], ?_⟩
        have hel' : (ekv (D.nd m).edges).length = (D.nd m).edges.length := by unfold ekv; rw [List.length_map]
        rw [upd_back hE2 Dne, hel', List.take_length]
        have eln : el ≠ Dd := ne_of_none hel2 hD2
        have hordl : ord.length ≤ 5000 := by rw [Bl.perm.length_eq]; exact B.len
        have hi' : i < ord.length := (List.getElem?_eq_some_iff.mp hom).1
        refine ⟨el, _, _, rfl, rfl, (by rw [upd_ne eln]; exact hel2), smallLt (by rw [List.length_map]; omega), ?_⟩
        refine ⟨es ++ [Dd], _, _, _, rfl, same_wr (s2.trans (same_upd hD2)) hel, by rw [upd_same, List.map_append]; rfl, by rw [List.length_append, hes]; rfl, ?_, fun j e m' hj hm' => ?_⟩
        · rw [List.nodup_append]
          refine ⟨hnd, by simp, fun y hy z hz e => ?_⟩
          have ez : z = Dd := by simpa using hz
          obtain ⟨j, hj⟩ := List.getElem?_of_mem hy
          have hjl : j < ord.length := by
            have := (List.getElem?_eq_some_iff.mp hj).1
            omega
          obtain ⟨_, _, h3⟩ := hde j y _ hj (List.getElem?_eq_getElem hjl)
          rw [e, ez, hD2] at h3
          cases h3
        · rcases Nat.lt_or_ge j es.length with l | l
          · rw [List.getElem?_append_left l] at hj
            obtain ⟨h1, h2, h3⟩ := hde j e m' hj hm'
            exact ⟨h1, h2, by rw [upd_ne h2, upd_ne (ne_of_none h3 hD2)]; exact h3⟩
          · rw [List.getElem?_append_right l] at hj
            have hj0 : j = es.length ∧ e = Dd := by
              cases q : j - es.length with
              | zero => rw [q] at hj; simp at hj; exact ⟨by omega, hj.symm⟩
              | succ k => rw [q] at hj; simp at hj
            obtain ⟨rfl, rfl⟩ := hj0
            rw [hes, hom] at hm'
            cases hm'
            exact ⟨s2.free hD2, Ne.symm eln, by rw [upd_ne (Ne.symm eln), upd_same]; rfl⟩
    · rintro σ H2 ⟨es, v3, v4, v8, rfl, s2, hel2, hes, hnd, hde⟩
      rw [List.length_map] at hes
      have hordl : ord.length ≤ 5000 := by rw [Bl.perm.length_eq]; exact B.len
      have hon : ord.Nodup := Bl.perm.nodup_iff.mpr B.nodup
      refine ⟨_, rfl, el, _, rfl, .inl (SqL.of hel2), ?_⟩
      refine ⟨_, rfl, x, CT, dxx, _, _, rfl, s2 _ _ hx, TT.cl, TT.marks, rfl, ml, rfl, ⟨_, SqL.of (s2 _ _ hml.choose_spec.1)⟩, ?_⟩
      rw [List.length_map, hes]
      refine for_LT (K := K) hml (fun i σ H' => ∃ (v4 v6 v7 : Option V), σ = [some (.ref a), some (.ref x), some (.ref el), v3, v4, some (.int (ord.length : Nat)), v6, v7, v8] ∧ Same H1 H' ∧ H' el = some (.lst (es.map V.ref)) ∧ Dk H' es ord D.nd D.num ord.length (Pmk ts lab i) (5000 + 2000 * i))
        ⟨v4, none, none, rfl, s2, hel2, fun j e m hj hm => ?_⟩ (fun i σ H' _ ⟨_, _, _, _, s, _⟩ => s) ?_ ?_
      · obtain ⟨_, _, h3⟩ := hde j e m hj hm
        have mV : m ∈ D.Vs := Bl.perm.mem_iff.mp (List.mem_of_getElem? hm)
        refine ⟨_, h3, ⟨kv_nodup _ (A.keys m mV), fun _ => rfl, fun n h => ?_, fun n h => ?_⟩, by unfold kv0; rw [List.length_map]; exact B.elen m mV⟩
        · obtain ⟨j, z, hj, _⟩ := h; omega
        · unfold kv0 at h
          obtain ⟨v, hv⟩ := Option.isSome_iff_exists.mp h
          have := valV_in hv
          rw [kv_keys, List.mem_map] at this
          obtain ⟨c, _, e⟩ := this
          cases e
      · rintro i r p σ H3 hi hp ⟨v4, v6, v7, rfl, s3, hel3, hk3⟩
        have hil : i < ts.length := by rw [← hM.len]; exact (List.getElem?_eq_some_iff.mp hi).1
        obtain ⟨⟨n, z⟩, hnz⟩ : ∃ t, ts[i]? = some t := ⟨_, List.getElem?_eq_getElem hil⟩
        obtain ⟨c, cl, r1, r2, r3, r4⟩ := hM.row i n z hil hnz
        rw [hi] at r1
        cases r1
        refine g2 hp ?_
        refine ⟨_, rfl, c, rfl, ⟨_, SqL.of (s3 _ _ r2)⟩, ?_⟩
        refine for_list (K := K) (a := c) (xs := cl.map V.ref) (fun k σ H' => ∃ (v4 : Option V), σ = [some (.ref a), some (.ref x), some (.ref el), v3, v4, some (.int (ord.length : Nat)), some (.int n), some (.ref c), v8] ∧ Same H1 H' ∧ H' el = some (.lst (es.map V.ref)) ∧ Dk H' es ord D.nd D.num ord.length (fun m n' => Pmk ts lab i m n' ∨ (n' = n ∧ m ∈ cl.take k)) (5000 + 2000 * i + k))
          ⟨v4, rfl, s3, hel3, hk3.imp (by omega) fun m _ n' => by simp⟩ (fun k σ H' _ ⟨_, _, s, _⟩ => SqL.of (s _ _ r2)) ?_ ?_
        · rintro k v σ H4 hk ⟨v4, rfl, s4, hel4, hk4⟩
          rw [List.getElem?_map] at hk
          obtain ⟨m', hm', rfl⟩ := Option.map_eq_some_iff.mp hk
          have mV : m' ∈ D.Vs := ((r3 m').mp (List.mem_of_getElem? hm')).1
          obtain ⟨j', hj'⟩ := List.getElem?_of_mem (Bl.perm.mem_iff.mpr mV)
          have hje : j' < es.length := by rw [hes]; exact (List.getElem?_eq_some_iff.mp hj').1
          have hee : es[j']? = some es[j'] := List.getElem?_eq_getElem hje
          obtain ⟨kvs, k1, k2, k3⟩ := hk4 j' _ m' hee hj'
          obtain ⟨im, him, hMm⟩ := B.at mV
          obtain ⟨e1, e2, _⟩ := hde j' _ m' hee hj'
          have hkl : k < 1001 := Nat.lt_of_lt_of_le (List.getElem?_eq_some_iff.mp hm').1 r4
          have hi8 : i < 8 := Nat.lt_of_lt_of_le hil hG.most
          refine ⟨_, rfl, _, rfl, _, rfl, m', CN, _, _, _, rfl, s4 _ _ hMm, TN.cl, TN.number, rfl, el, _, _, _, rfl, rfl, SqL.of hel4, atI_ref (i := j') (by rw [Bl.nums j' m' hj']) hee, _, rfl, _, _, rfl, .inl ⟨kvs, .inl n, k1, rfl, smallLt (by omega), rfl⟩, ?_⟩
          refine ⟨_, rfl, same_wr s4 e1, by rw [upd_ne (Ne.symm e2)]; exact hel4, ?_⟩
          refine hk4.put hnd hon hee hj' k1 (fun n' => ?_) (fun m hm n' => ?_)
          · have : m' ∈ cl.take (k + 1) := by rw [take_snoc hm']; simp
            constructor
            · rintro (h | h)
              · exact .inl (.inl h)
              · exact .inr h.1
            · rintro ((h | h) | h)
              · exact .inl h
              · exact .inr ⟨h.1, this⟩
              · exact .inr ⟨h, this⟩
          · rw [take_snoc hm', List.mem_append, List.mem_singleton]
            constructor
            · rintro (h | ⟨h, h2 | h2⟩)
              · exact .inl h
              · exact .inr ⟨h, h2⟩
              · exact absurd h2 hm
            · rintro (h | ⟨h, h2⟩)
              · exact .inl h
              · exact .inr ⟨h, .inl h2⟩
        · rintro σ H4 ⟨v4, rfl, s4, hel4, hk4⟩
          rw [List.length_map, List.take_length] at hk4
          refine ⟨_, _, _, rfl, s4, hel4, hk4.imp (by omega) fun m hm n' => ?_⟩
          constructor
          · rintro ⟨j, z', hj, hjz, hs⟩
            rcases Nat.lt_or_ge j i with l | l
            · exact .inl ⟨j, z', l, hjz, hs⟩
            · have : j = i := by omega
              subst this
              rw [hnz] at hjz
              cases hjz
              exact .inr ⟨rfl, (r3 m).mpr ⟨Bl.perm.mem_iff.mp hm, hs⟩⟩
          · rintro (⟨j, z', hj, hjz, hs⟩ | ⟨rfl, h⟩)
            · exact ⟨j, z', by omega, hjz, hs⟩
            · exact ⟨i, z, by omega, hnz, ((r3 m).mp h).2⟩
      · rintro σ H3 ⟨v4, v6, v7, rfl, s3, hel3, hk3⟩
        rw [hM.len] at hk3
        have hLa : LT H3 a (ts.map hrow) := (hL.same sH1).same s3
        obtain ⟨xs, hxs, hxl⟩ := hLa.ref
        refine ⟨fun σ' H' => σ' = [some (.ref a), some (.ref x), some (.ref el), v3, v4, some (.int (ord.length : Nat)), v6, v7, v8] ∧ Same H H' ∧ MachAt (nt H H') el ts (ord.map lab), ?_, ?_⟩
        have toNt : ∀ {H' : Hp}, Dk H' es ord D.nd D.num ord.length (Pmk ts lab ts.length) (5000 + 2000 * ts.length) → Dk (nt H H') es ord D.nd D.num ord.length (Pmk ts lab ts.length) (5000 + 2000 * ts.length) := fun h j e m hj hm => by
          obtain ⟨kvs, b1, b2, b3⟩ := h j e m hj hm
          exact ⟨kvs, by rw [nt_new (sH1.free (hde j e m hj hm).1)]; exact b1, b2, b3⟩
        · refine ⟨_, rfl, a, _, rfl, .inl (SqL.of hxs), _, _, rfl, rfl, _, rfl, ?_⟩
          rw [List.length_map] at hxl
          by_cases h0 : ts = []
          · refine if_neg_of (by rw [hxl, h0]; simp) ⟨rfl, sH1.trans s3, machAt_of Bl ((nt_new elH).trans hel3) hes (.inl ⟨h0, rfl⟩) (toNt hk3)⟩
          · have hp : 0 < ts.length := List.length_pos_iff.mpr h0
            refine if_pos_of (by rw [hxl]; simp; omega) ?_
            refine ⟨_, rfl, .inl ⟨rfl, _, SqL.of hel3⟩, fun dn hdn => ?_⟩
            have eld : el ≠ dn := ne_of_none hel3 hdn
            refine ⟨el, _, _, rfl, rfl, same_upd hdn _ _ hel3, smallLt (by rw [List.length_map]; omega), ?_⟩
            refine ⟨rfl, same_wr ((sH1.trans s3).trans (same_upd hdn)) elH, machAt_of Bl (N := 5000 + 2000 * ts.length) (es := es) (es' := es ++ [dn]) (by rw [nt_new elH, upd_same, List.map_append]; rfl) hes (.inr ⟨h0, dn, rfl, by rw [nt_new ((sH1.trans s3).free hdn), upd_ne (Ne.symm eld), upd_same]⟩) (toNt ?_)⟩
            intro j e m hj hm
            obtain ⟨kvs, b1, b2, b3⟩ := hk3 j e m hj hm
            obtain ⟨_, e2, _⟩ := hde j e m hj hm
            exact ⟨kvs, by rw [upd_ne e2]; exact same_upd hdn _ _ b1, b2, b3⟩
        · rintro σ' H' ⟨rfl, s', M⟩
          exact ⟨_, rfl, hQ H' el _ s' elH Bl.num M⟩
end
end Sfx
end
section
set_option Elab.async false
set_option linter.all false
set_option maxRecDepth 100000
set_option maxHeartbeats 4000000
namespace Sfx
open PySem PySem.Spec L2
def PLt (p q : Int × Nat) : Prop := p.1 < q.1 ∨ (p.1 = q.1 ∧ p.2 < q.2)
theorem occs_asc (n : Int) (z v : W) (k : Nat) : (occs n z v k).Pairwise PLt := by
  unfold occs
  rw [List.pairwise_map]
  exact (List.pairwise_lt_range (n := k)).filter _ |>.imp fun h => .inr ⟨rfl, h⟩
theorem allOccs_asc {ts : List (Int × Str)} (h : Asc ts) (v : W) : (allOccs ts v).Pairwise PLt := by
  unfold allOccs
  rw [List.pairwise_flatMap]
  refine ⟨fun t _ => occs_asc _ _ _ _, h.imp fun {a b} hab x hx y hy => .inl ?_⟩
  obtain ⟨m, e⟩ := x
  obtain ⟨m', e'⟩ := y
  rw [(mem_occs.mp hx).1, (mem_occs.mp hy).1]
  exact hab
theorem plt_rows {l : List (Int × Nat)} (h : l.Pairwise PLt) : (l.map erow).Pairwise fun x y => rowLt y x = false := by
  rw [List.pairwise_map]
  refine h.imp fun {p q} hpq => ?_
  unfold erow
  rw [rowLt_int, rowLt_int]
  have h0 : rowLt [] [] = false := rfl
  rw [h0]
  rcases hpq with h | ⟨h, g⟩
  · rw [decide_eq_false (by omega), decide_eq_true h]; rfl
  · rw [decide_eq_false (by omega), decide_eq_false (by omega), decide_eq_false (by omega)]; simp
theorem sorted_rows {l : List (Int × Nat)} {rows' : List (List V)} (h : l.Pairwise PLt) (p : rows'.Perm (l.map erow)) (hs : rows'.Pairwise fun x y => rowLt y x = false) : rows' = l.map erow :=
  sorted_uniq (sh := [false, false]) (fun r hr => by obtain ⟨x, _, rfl⟩ := List.mem_map.mp (p.mem_iff.mp hr); rfl) p hs (plt_rows h)
structure StAt (H : Hp) (l : Addr) (ts : List (Int × Str)) (L : List W) : Prop where
  ex : ∃ qs : List Addr, H l = some (.lst (qs.map V.ref)) ∧ qs.length = L.length ∧ ∀ (i : Nat) (v : W), L[i]? = some v → ∃ (q p : Addr) (x y u : V), qs[i]? = some q ∧ H q = some (.tup [x, y, .ref p, u]) ∧ LT H p ((allOccs ts v).map erow)
theorem StAt.same {H H' : Hp} {l : Addr} {ts : List (Int × Str)} {L : List W} (M : StAt H l ts L) (s : Same H H') : StAt H' l ts L := by
  obtain ⟨es, h1, h2, h3⟩ := M.ex
  exact ⟨es, s _ _ h1, h2, fun i v h => let ⟨q, p, x, y, u, a, b, c⟩ := h3 i v h; ⟨q, p, x, y, u, a, s _ _ b, c.same s⟩⟩
section
variable {P : Program} {w : World} {K : PySem.W.Frag} {mg : Str → Option Value} {base : Heap} {ec : Nat → Addr} {CN CB CT : Addr}
abbrev s_states : Stmt := topS 35
abbrev N_states : List Str := ["house", "found", "shortest", "longest", "node", "link"]
theorem sc_states : FnScope ["house", "found", "shortest", "longest", "node", "link"] ["house"] (defScope s_states) := ⟨rfl, rfl, rfl, by decide +kernel, rfl, by decide +kernel, by decide +kernel⟩
def sp_states : Sp := fun vs H Q _ => ∃ (a : Addr) (ts : List (Int × Str)), vs = [.ref a] ∧ LT H a (ts.map hrow) ∧ GoodTs ts ∧ ∀ H' l L, Same H H' → H l = none → IsNum (Can (wds ts)) L → StAt (nt H H') l ts L → Q (.ref l) H'
theorem ok_states {f : Addr} {fd : FuncData} (F : Fun K "states" "states" s_states f fd) (T : Txt mg) (TN : TxtN K CN) (TT : TxtT K CT)
    (h_Built : HasC P w K mg base CX0 "Built" CT 7 ["self", "house"] (sp_Built_init CN CB CT)) : FnOk P w K mg base CX0 9 f fd ["house"] sp_states := by
  refine F.ok sc_states (fun vs H Q E h => ?_) (fun cdv A outer s H vs Q E hr h => ?_)
  · obtain ⟨a, ts, rfl, _⟩ := h
    rfl
  · obtain ⟨a, ts, rfl, hL, hG, hQ⟩ := h
    refine ⟨_, (pss_cons (ps_set (i := 1) sc_states.nd rfl (Or.inl rfl) (pe_lst pa_nil))
      (pss_cons (ps_for PassesOwn.never rfl (pi_list (pe_fld (pe_makeG h_Built (hr.mono (by decide)) (pa_cons (pv 0) pa_nil)) rfl)) (pg_tup rfl (pgs_cons (pg_name (i := 2) sc_states.nd rfl (Or.inl rfl)) (pgs_cons (pg_name (i := 3) sc_states.nd rfl (Or.inl rfl)) (pgs_cons (pg_name (i := 4) sc_states.nd rfl (Or.inl rfl)) pgs_nil))))
      (pss_cons (ps_set (i := 5) sc_states.nd rfl (Or.inl rfl) pe_non)
      (pss_cut (ps_if (pt_cmpR op_notN (pe_fld (pv 4) rfl) pe_non (nomark _))
      (pss_one (ps_set (i := 5) sc_states.nd rfl (Or.inl rfl) (pe_fld (pe_fld (pv 4) rfl) rfl)))
      pss_nil)
      (pss_one (ps_expr (pe_bm PySem.F.plainAttrs_list PySem.F.slot_list_append PySem.F.type_list_append mt_append (pv 1) (pa_cons (pe_tup (pa_cons (pv 2) (pa_cons (pv 3) (pa_cons (pe_callB cr_sortedM (by rfl) T.sorted (by decide +kernel) (pa_cons (pe_fld (pv 4) rfl) pa_nil)) (pa_cons (pv 5) pa_nil))))) pa_nil)))))))
      (pss_one (ps_ret (pv 1))))), ?_⟩
    refine ⟨Nat.zero_le _, fun fl hfl => ⟨_, rfl, ?_⟩⟩
    have sF : Same H (upd H fl (.lst [])) := same_upd hfl
    intro x dx nx ndx nex
    have sA : Same (upd H fl (.lst [])) (upd (upd (upd H fl (.lst [])) dx (.own x)) x (.ins CT dx [])) := same_to (same_upd ndx) (by rw [upd_ne (Ne.symm nex)]; exact nx)
    refine ⟨a, x, dx, ts, rfl, upd_same, (hL.same sF).same sA, hG, fun H1 Hb b D lab ord Bl s1 => ⟨rfl, ?_⟩⟩
    have sHb := del2_same nx ndx s1
    have sH1 := sHb.trans Bl.B.same
    obtain ⟨dxx, ml, rl, mrs, hx, hrl, hml, hM⟩ := Bl.obj
    have B := Bl.B
    have A := Bl.I.A
    have hfl1 : H1 fl = some (.lst []) := sH1 _ _ upd_same
    have hordl : ord.length ≤ 5000 := by rw [Bl.perm.length_eq]; exact B.len
    refine ⟨x, CT, dxx, _, _, rfl, hx, TT.cl, TT.rows, rfl, rl, rfl, ⟨_, SqL.of hrl.choose_spec.1⟩, ?_⟩
    -- rl is not fl
    have hord : ord ≠ [] := fun e => by
      have := Bl.perm.mem_iff.mpr B.s0m
      rw [e] at this
      cases this
    have rlf : rl ≠ fl := fun e => by
      obtain ⟨qs, q1, q2⟩ := hrl
      rw [e, hfl1] at q1
      have h1 := HO.lst.inj (Option.some.inj q1)
      have h2 := paired_len q2
      rw [List.length_map] at h2
      have h3 := congrArg List.length h1
      rw [List.length_map, h2] at h3
      exact hord (List.eq_nil_of_length_eq_zero h3.symm)
    have hrl0 : LT (del H1 fl) rl (ord.map (rrow D.nd lab)) := by
      obtain ⟨qs, q1, q2⟩ := hrl
      exact ⟨qs, by rw [del_ne rlf]; exact q1, paired_imp (fun p r e => by rw [del_ne (ne_kind hfl1 e (fun z => nomatch z))]; exact e) q2⟩
    have sD : Same (del H1 fl) H1 := fun c o e => by
      by_cases q : c = fl
      · rw [q, del_same] at e; cases e
      · rw [del_ne q] at e; exact e
    have flb := sHb _ _ (upd_same (H := H) (a := fl) (o := .lst []))
    have sHd : Same H (del H1 fl) := fun c o e => by
      have n := ne_of_none e hfl
      rw [del_ne n]
      exact sH1 _ _ (sF _ _ e)
    refine for_LT (K := K) (H0 := del H1 fl) hrl0 (fun i σ H' => ∃ (qs : List Addr) (v2 v3 v4 v5 : Option V), σ = [some (.ref a), some (.ref fl), v2, v3, v4, v5] ∧ Same (del H1 fl) H' ∧ H' fl = some (.lst (qs.map V.ref)) ∧ qs.length = i ∧ ∀ (j : Nat) (m : Addr), j < i → ord[j]? = some m → ∃ (q p : Addr) (x y u : V), qs[j]? = some q ∧ H' q = some (.tup [x, y, .ref p, u]) ∧ LT H' p ((allOccs ts (lab m)).map erow) ∧ p ≠ fl ∧ H p = none)
      ⟨[], none, none, none, none, rfl, sD, hfl1, rfl, fun j m h => by omega⟩ (fun i σ H' _ ⟨_, _, _, _, _, _, s, _⟩ => s) ?_ ?_
    · rintro i r p σ H2 hi hp ⟨qs, v2, v3, v4, v5, rfl, s2, hfl2, hqs, hst⟩
      rw [List.getElem?_map] at hi
      obtain ⟨m, hom, rfl⟩ := Option.map_eq_some_iff.mp hi
      have mV : m ∈ D.Vs := Bl.perm.mem_iff.mp (List.mem_of_getElem? hom)
      obtain ⟨im, him, hMm⟩ := B.at mV
      refine g3 hp ?_
      have kp : ∀ {c : Addr} {u : HO}, H1 c = some u → c ≠ fl → H2 c = some u := fun h n => s2 _ _ (by rw [del_ne n]; exact h)
      have hM2 := kp hMm (ne_kind hfl1 hMm (fun z => nomatch z))
      refine ⟨fun σ' H' => ∃ u, H' = H2 ∧ σ' = [some (.ref a), some (.ref fl), some (.str (toS (shOf D.nd lab m))), some (.str (toS (lab m))), some (.ref m), some u], ?_, ?_⟩
      · refine ⟨_, rfl, m, CN, _, _, _, rfl, hM2, TN.cl, TN.link, rfl, rfl, _, rfl, ?_⟩
        cases hlk : (D.nd m).link with
        | none => exact if_neg_of (by simp [lkV]) ⟨_, rfl, rfl⟩
        | some y =>
          have yV : y ∈ D.Vs := (A.link m mV y hlk).1
          obtain ⟨iy, hiy, hY⟩ := B.at yV
          refine if_pos_of (by simp [lkV]) ?_
          exact ⟨_, rfl, m, CN, _, _, _, rfl, hM2, TN.cl, TN.link, rfl, y, CN, _, _, _, (by rw [hlk]; rfl), kp hY (ne_kind hfl1 hY (fun z => nomatch z)), TN.cl, TN.number, rfl, _, rfl, rfl⟩
      · rintro σ' H' ⟨u, rfl, rfl⟩
        have plf : D.pl m ≠ fl := fun e => by have := (B.fr m mV).2.2.1; rw [e, flb] at this; cases this
        have hpl : LT H' (D.pl m) ((allOccs ts (lab m)).map erow) := by
          obtain ⟨qs2, q1, q2⟩ := B.pairs m mV
          rw [Bl.ps m mV] at q2
          refine ⟨qs2, kp q1 plf, paired_imp (fun p r e => ?_) q2⟩
          exact kp e (ne_kind hfl1 e (fun z => nomatch z))
        refine ⟨_, rfl, .inl ⟨rfl, _, SqL.of hfl2⟩, ?_⟩
        refine ⟨_, rfl, _, rfl, _, rfl, m, CN, _, _, _, rfl, hM2, TN.cl, TN.pairs, rfl, D.pl m, _, [false, false], rfl, hpl, by simp, fun r hr => ?_, fun qs' rows' p' hperm hpair hsort hp' => ?_⟩
        · obtain ⟨e, _, rfl⟩ := List.mem_map.mp hr
          rfl
        have er := sorted_rows (allOccs_asc hG.asc (lab m)) hperm hsort
        subst er
        refine ⟨_, rfl, (by show 4 ≤ sizeLine; decide), fun t ht => ?_⟩
        have tp' : t ≠ p' := fun e => by rw [e, upd_same] at ht; cases ht
        have ht2 : H' t = none := by rw [upd_ne tp'] at ht; exact ht
        have s4 : Same H' (upd (upd H' p' (.lst (qs'.map V.ref))) t (.tup [.str (toS (shOf D.nd lab m)), .str (toS (lab m)), .ref p', u])) := same_to (same_upd hp') ht
        have hi' : i < ord.length := (List.getElem?_eq_some_iff.mp hom).1
        have hfl4 := s4 _ _ hfl2
        have tfl : t ≠ fl := Ne.symm (ne_of_none hfl2 ht2)
        have p'fl : p' ≠ fl := Ne.symm (ne_of_none hfl2 hp')
        refine ⟨fl, _, _, rfl, rfl, hfl4, smallLt (by rw [List.length_map]; omega), ?_⟩
        refine ⟨qs ++ [t], _, _, _, _, rfl, same_wr (s2.trans s4) del_same, by rw [upd_same, List.map_append]; rfl, by rw [List.length_append, hqs]; rfl, fun j m' hj hm' => ?_⟩
        have kp2 : ∀ {c : Addr} {o : HO} {xs : List V}, upd (upd H' p' (.lst (qs'.map V.ref))) t (.tup [.str (toS (shOf D.nd lab m)), .str (toS (lab m)), .ref p', u]) c = some o → c ≠ fl → upd (upd (upd H' p' (.lst (qs'.map V.ref))) t (.tup [.str (toS (shOf D.nd lab m)), .str (toS (lab m)), .ref p', u])) fl (.lst xs) c = some o := fun h n => by rw [upd_ne n]; exact h
        have kpT : ∀ {c : Addr} {rows : List (List V)} {xs : List V}, LT (upd (upd H' p' (.lst (qs'.map V.ref))) t (.tup [.str (toS (shOf D.nd lab m)), .str (toS (lab m)), .ref p', u])) c rows → c ≠ fl → LT (upd (upd (upd H' p' (.lst (qs'.map V.ref))) t (.tup [.str (toS (shOf D.nd lab m)), .str (toS (lab m)), .ref p', u])) fl (.lst xs)) c rows := fun h n => by
          obtain ⟨q3, g1, g2⟩ := h
          refine ⟨q3, kp2 g1 n, paired_imp (fun _ _ e => ?_) g2⟩
          exact kp2 e (ne_kind hfl4 e (fun z => nomatch z))
        rcases Nat.lt_or_ge j i with l | l
        · obtain ⟨q, p2, x2, y2, u2, g1, g2, g3, g4, g5⟩ := hst j m' l hm'
          exact ⟨q, p2, x2, y2, u2, by rw [List.getElem?_append_left (by rw [hqs]; exact l)]; exact g1, kp2 (s4 _ _ g2) (ne_kind hfl4 (s4 _ _ g2) (fun z => nomatch z)), kpT (g3.same s4) g4, g4, g5⟩
        · have : j = i := by omega
          subst this
          rw [hom] at hm'
          cases hm'
          refine ⟨t, p', _, _, _, by rw [List.getElem?_append_right (by rw [hqs]; exact Nat.le_refl _), hqs, Nat.sub_self]; rfl, kp2 upd_same tfl, kpT ⟨qs', by rw [upd_ne (Ne.symm tp'), upd_same], ?_⟩ p'fl, p'fl, (sHd.trans s2).free hp'⟩
          exact paired_imp (fun _ _ e => s4 _ _ e) hpair
    · rintro σ H2 ⟨qs, v2, v3, v4, v5, rfl, s2, hfl2, hqs, hst⟩
      rw [List.length_map] at hqs
      refine ⟨_, rfl, hQ H2 fl (ord.map lab) (sHd.trans s2) hfl Bl.num ⟨qs, (nt_new hfl).trans hfl2, by rw [hqs, List.length_map], fun i v hv => ?_⟩⟩
      rw [List.getElem?_map] at hv
      obtain ⟨m, hm, rfl⟩ := Option.map_eq_some_iff.mp hv
      obtain ⟨q, p2, x2, y2, u2, g1, g2, g3, _, g5⟩ := hst i m (by rw [List.length_map]; exact (List.getElem?_eq_some_iff.mp hm).1) hm
      exact ⟨q, p2, x2, y2, u2, g1, nt_tup g2, nt_LT g3 g5⟩
end
end Sfx
end
section
set_option Elab.async false
set_option linter.all false
set_option maxRecDepth 100000
set_option maxHeartbeats 4000000
namespace Sfx
open PySem PySem.Spec L2
theorem sh_ex {S : W → Prop} {v : W} (h : S v) : ∃ s, Sh S v s := by
  have : ∀ n s, s.length ≤ n → Ext S s v → ∃ s, Sh S v s := by
    intro n
    induction n with
    | zero => intro s hs he; exact ⟨s, he, fun s' _ q => by omega⟩
    | succ n ih =>
      intro s hs he
      by_cases q : ∃ s', s' <:+ v ∧ s'.length < s.length ∧ Ext S s' v
      · obtain ⟨s', _, q2, q3⟩ := q
        exact ih s' (by omega) q3
      · exact ⟨s, he, fun s' h1 h2 h3 => q ⟨s', h1, h2, h3⟩⟩
  exact this v.length v (Nat.le_refl _) (Ext.self h)
theorem wds_ne {ts : List (Int × Str)} : wds ts ≠ [] := by unfold wds; simp
theorem num_zero {ts : List (Int × Str)} {L : List W} (h : IsNum (Can (wds ts)) L) : L[0]? = some [] := h.zero (.inl rfl) fun v hv => sh_ex hv
theorem ext_step {ts : List (Int × Str)} {x v y : W} {c : Nat} (f : Fac (wds ts) x) (h : Ext (Can (wds ts)) x v) (fc : Fac (wds ts) (x ++ [c])) : Fac (wds ts) (v ++ [c]) ∧ (Ext (Can (wds ts)) (v ++ [c]) y → Ext (Can (wds ts)) (x ++ [c]) y) := by
  have G := good (D := wds ts) wds_ne
  refine ⟨G.c2F x v c f h fc, fun e => ⟨e.1, (suf_concat h.2.1).trans e.2.1, fun z hz q => e.2.2 z hz (G.c2S x v c f h z hz q)⟩⟩
theorem fac_take {Ds : List W} {x : W} (k : Nat) (h : Fac Ds x) : Fac Ds (x.take k) := by
  obtain ⟨t, ht, e, he, hs⟩ := h
  obtain ⟨p, hp⟩ := hs
  refine ⟨t, ht, (p ++ x.take k).length, ?_, ?_⟩
  · have h1 : (t.take e).length ≤ t.length := by rw [List.length_take]; omega
    have h2 := congrArg List.length hp
    rw [List.length_append] at h2 ⊢
    rw [List.length_take]
    omega
  · have h1 : t.take (p ++ x.take k).length = p ++ x.take k := by
      have h2 : (p ++ x.take k).length ≤ e := by
        have h2 := congrArg List.length hp
        rw [List.length_append, List.length_take] at h2
        rw [List.length_append, List.length_take]
        omega
      have h3 : t.take (p ++ x.take k).length = (t.take e).take (p ++ x.take k).length := by rw [List.take_take, Nat.min_eq_left h2]
      rw [h3, ← hp, List.length_append, List.take_append]
      congr 1
      · exact List.take_of_length_le (by omega)
      · rw [List.length_take, Nat.add_sub_cancel_left]
        rcases Nat.le_total k x.length with q | q
        · rw [Nat.min_eq_left q]
        · rw [Nat.min_eq_right q, List.take_of_length_le (Nat.le_refl _), List.take_of_length_le q]
    rw [h1]
    exact List.suffix_append _ _
section
variable {P : Program} {w : World} {K : PySem.W.Frag} {mg : Str → Option Value} {base : Heap} {ec : Nat → Addr} {CN CB CT : Addr}
abbrev s_state_of : Stmt := topS 36
abbrev N_state_of : List Str := ["edges", "word", "state", "letter"]
theorem sc_state_of : FnScope ["edges", "word", "state", "letter"] ["edges", "word"] (defScope s_state_of) := ⟨rfl, rfl, rfl, by decide +kernel, rfl, by decide +kernel, by decide +kernel⟩
def sp_state_of : Sp := fun vs H Q _ => ∃ (l : Addr) (ts : List (Int × Str)) (L : List W) (z : Str), vs = [.ref l, .str z] ∧ MachAt H l ts L ∧ IsNum (Can (wds ts)) L ∧
  (∀ (i : Nat) (v : W), Fac (wds ts) z.cps.toList → Ext (Can (wds ts)) z.cps.toList v → L[i]? = some v → Q (.int (i : Nat)) H) ∧ (¬ Fac (wds ts) z.cps.toList → Q .non H)
theorem ok_state_of {f : Addr} {fd : FuncData} (F : Fun K "state_of" "state_of" s_state_of f fd) : FnOk P w K mg base CX0 1 f fd ["edges", "word"] sp_state_of := by
  refine F.ok sc_state_of (fun vs H Q E h => ?_) (fun cdv A outer s H vs Q E hr h => ?_)
  · obtain ⟨l, ts, L, z, rfl, _⟩ := h
    rfl
  · obtain ⟨l, ts, L, z, rfl, M, N, hY, hN⟩ := h
    have hu := hu_of hr
    refine ⟨_, (pss_cons (ps_set (i := 2) sc_state_of.nd rfl (Or.inl rfl) pe_int)
      (pss_cons (ps_for PassesOwn.never rfl (pi_str (pv 1)) (pg_name (i := 3) sc_state_of.nd rfl (Or.inl rfl))
      (pss_cons (ps_set (i := 2) sc_state_of.nd rfl (Or.inl rfl) (pe_dget1 hu (pe_ix (ixL K) (pv 0) (pv 2) (fun _ _ => rfl)) (pv 3) ⟨rfl, rfl, rfl, rfl⟩))
      (pss_one (ps_if (pt_cmpR op_isN (pv 2) pe_non (nomark _))
      (pss_one (ps_ret pe_non))
      pss_nil))))
      (pss_one (ps_ret (pv 2))))), ?_⟩
    obtain ⟨es, h1, h2, h3, h4⟩ := M.ex
    have G := good (D := wds ts) wds_ne
    have f0 : Fac (wds ts) ([] : W) := G.fac _ G.nil
    refine ⟨_, rfl, z, rfl, ?_⟩
    refine for_str (fun k σ H' => H' = H ∧ ∃ (i : Nat) (v : W) (v3 : Option V), σ = [some (.ref l), some (.str z), some (.int (i : Nat)), v3] ∧ Fac (wds ts) (z.cps.toList.take k) ∧ Ext (Can (wds ts)) (z.cps.toList.take k) v ∧ L[i]? = some v)
      ⟨rfl, 0, [], none, rfl, by rw [List.take_zero]; exact f0, by rw [List.take_zero]; exact Ext.self G.nil, num_zero N⟩ ?_ ?_
    · rintro k c σ H' hc ⟨rfl, i, v, v3, rfl, hf, he, hi⟩
      obtain ⟨e, kvs, q1, q2, q3⟩ := h3 i v hi
      refine ⟨_, rfl, _, rfl, l, _, _, _, rfl, rfl, SqL.of h1, atI_ref (i := i) (by omega) q1, e, rfl, .inl ⟨_, .inl q2⟩, _, rfl, _, .inl ⟨kvs, .inr (sgn c), .inl q2, rfl, rfl⟩, ?_⟩
      refine ⟨_, rfl, rfl, _, rfl, ?_⟩
      by_cases hfc : Fac (wds ts) (z.cps.toList.take (k + 1))
      · have hfc' := hfc
        rw [take_snoc hc] at hfc'
        have f2 := (ext_step (y := v) hf he hfc').1
        obtain ⟨y, hy⟩ := G.ex _ f2
        obtain ⟨j, hj⟩ := List.getElem?_of_mem ((N.mem y).mpr hy.1)
        have := q3.c1 c j y f2 hy hj
        refine if_neg_of (by rw [this]; simp) ⟨rfl, j, y, _, by rw [this]; rfl, hfc, ?_, hj⟩
        rw [take_snoc hc]
        exact (ext_step hf he hfc').2 hy
      · have : valV kvs (.inr (sgn c)) = none := by
          cases q : valV kvs (.inr (sgn c)) with
          | none => rfl
          | some u =>
            exfalso
            obtain ⟨c', e', f'⟩ := q3.c2 (sgn c) (by rw [q]; rfl)
            rw [← sgn_inj e'] at f'
            apply hfc
            rw [take_snoc hc]
            exact G.suf _ _ f' (suf_concat he.2.1)
        refine if_pos_of (by rw [this]; simp) (hN fun f => hfc (fac_take _ f))
    · rintro σ H' ⟨rfl, i, v, v3, rfl, hf, he, hi⟩
      rw [List.take_length] at hf he
      exact ⟨_, rfl, hY i v hf he hi⟩

abbrev s_takes : Stmt := topS 37
abbrev N_takes : List Str := ["edges", "word", "mark", "state"]
theorem sc_takes : FnScope ["edges", "word", "mark", "state"] ["edges", "word", "mark"] (defScope s_takes) := ⟨rfl, rfl, rfl, by decide +kernel, rfl, by decide +kernel, by decide +kernel⟩
def sp_takes : Sp := fun vs H Q _ => ∃ (l : Addr) (ts : List (Int × Str)) (L : List W) (z : Str) (n : Int), vs = [.ref l, .str z, .int n] ∧ MachAt H l ts L ∧ IsNum (Can (wds ts)) L ∧
  ((∃ y : Str, (n, y) ∈ ts ∧ z.cps.toList <:+ y.cps.toList) → Q (.bl true) H) ∧ ((∀ y : Str, (n, y) ∈ ts → ¬ z.cps.toList <:+ y.cps.toList) → Q (.bl false) H)
theorem ok_takes {f : Addr} {fd : FuncData} (F : Fun K "takes" "takes" s_takes f fd) (h_state_of : HasF P w K mg base CX0 "state_of" 1 ["edges", "word"] sp_state_of) : FnOk P w K mg base CX0 2 f fd ["edges", "word", "mark"] sp_takes := by
  refine F.ok sc_takes (fun vs H Q E h => ?_) (fun cdv A outer s H vs Q E hr h => ?_)
  · obtain ⟨l, ts, L, z, n, rfl, _⟩ := h
    rfl
  · obtain ⟨l, ts, L, z, n, rfl, M, N, hY, hN⟩ := h
    have hu := hu_of hr
    refine ⟨_, (pss_cons (ps_set (i := 3) sc_takes.nd rfl (Or.inl rfl) (pe_callG h_state_of (hr.mono (by decide)) p0 (pa_cons (pv 0) (pa_cons (pv 1) pa_nil))))
      (pss_one (ps_ret (pe_and (pe_cmpR op_notN (pv 3) pe_non (nomark _)) (pe_one (pe_cmp (pc_din hu (pv 2) (pe_ix (ixL K) (pv 0) (pv 3) (fun _ _ => rfl))))))))), ?_⟩
    obtain ⟨es, h1, h2, h3, h4⟩ := M.ex
    refine ⟨_, rfl, _, rfl, l, ts, L, z, rfl, M, N, fun i v f he hi => ?_, fun f => ?_⟩
    · obtain ⟨e, kvs, q1, q2, q3⟩ := h3 i v hi
      refine ⟨_, rfl, rfl, _, rfl, ?_⟩
      refine if_pos_of (by simp) ?_
      refine ⟨_, rfl, _, rfl, _, rfl, l, _, _, _, rfl, rfl, SqL.of h1, atI_ref (i := i) (by omega) q1, e, _, rfl, .inl ⟨kvs, .inl n, .inl q2, rfl, rfl⟩, ?_⟩
      cases q : valV kvs (.inl n) with
      | none =>
        refine hN fun y hy hs => ?_
        have g := ext_goes f he
        have hm : y.cps.toList ∈ wds ts := List.mem_cons_of_mem _ (List.mem_map.mpr ⟨_, hy, rfl⟩)
        have o := g _ hm y.cps.toList.length ⟨Nat.le_refl _, by rw [List.take_length]; exact hs⟩
        have o2 := o.2
        rw [List.take_length] at o2
        rw [q3.m1 n y hy o2] at q
        cases q
      | some u =>
        obtain ⟨y, y1, y2⟩ := q3.m2 n (by rw [q]; rfl)
        exact hY ⟨y, y1, he.2.1.trans y2⟩
    · refine ⟨_, rfl, rfl, _, rfl, ?_⟩
      refine if_neg_of (by simp) ?_
      refine hN fun y hy hs => f ?_
      have hm : y.cps.toList ∈ wds ts := List.mem_cons_of_mem _ (List.mem_map.mpr ⟨_, hy, rfl⟩)
      exact ⟨_, hm, y.cps.toList.length, Nat.le_refl _, by rw [List.take_length]; exact hs⟩
end
end Sfx
end
section
set_option Elab.async false
set_option linter.all false
set_option maxRecDepth 100000
set_option maxHeartbeats 4000000
namespace Sfx
open PySem PySem.Spec L2
structure TxtH (K : PySem.W.Frag) (CH : Addr) : Prop where
  cl : Cls K CH
  texts : NoAttr K CH "_texts"
  order : NoAttr K CH "_order"
  history : NoAttr K CH "_history"
  machine : NoAttr K CH "_machine"
  states : NoAttr K CH "_states"
  commons : NoAttr K CH "_commons"
structure HD where
  dx : Addr
  tl : Addr
  ol : Addr
  hl : Addr
  ml : Addr
  sl : Addr
  cl : Addr
def hfl (d : HD) : List (Str × V) := [("_texts", .ref d.tl), ("_order", .ref d.ol), ("_history", .ref d.hl), ("_machine", .ref d.ml), ("_states", .ref d.sl), ("_commons", .ref d.cl)]
def irow (t : Str × Int × Str) : List V := [.str t.1, .int t.2.1, .str t.2.2]
def wPut : Str := "put"
def wTake : Str := "take"
structure HAt (CH : Addr) (G : Hp) (p : Addr) (d : HD) (ts : List (Int × Str)) (ol : List (Int × Nat)) (hi : List (Str × Int × Str)) : Prop where
  obj : G p = some (.ins CH d.dx (hfl d))
  good : GoodTs ts
  ord : IsOrder ts ol
  texts : LT G d.tl (ts.map hrow)
  order : LT G d.ol (ol.map erow)
  hist : LT G d.hl (hi.map irow)
  mach : ∃ L, IsNum (Can (wds ts)) L ∧ MachAt G d.ml ts L ∧ StAt G d.sl ts L
  comm : G d.cl = some (.lst ((comms (ol.map (letE ts))).map fun n => V.int (n : Nat)))
  last : ∀ w n z, hi.getLast? = some (w, n, z) → (w = wPut ∧ (n, z) ∈ ts) ∨ (w = wTake ∧ PutOk ts n z ∧ Ltr z)
theorem HAt.same {CH : Addr} {G G' : Hp} {p : Addr} {d : HD} {ts : List (Int × Str)} {ol : List (Int × Nat)} {hi : List (Str × Int × Str)} (h : HAt CH G p d ts ol hi) (s : Same G G') : HAt CH G' p d ts ol hi :=
  ⟨s _ _ h.obj, h.good, h.ord, h.texts.same s, h.order.same s, h.hist.same s, let ⟨L, a, b, c⟩ := h.mach; ⟨L, a, b.same s, c.same s⟩, s _ _ h.comm, h.last⟩
def dd (H : Hp) (z1 z2 : Addr) : Hp := del (del H z1) z2
theorem dd_ne {H : Hp} {z1 z2 c : Addr} (h1 : c ≠ z1) (h2 : c ≠ z2) : dd H z1 z2 c = H c := by unfold dd; rw [del_ne h2, del_ne h1]
theorem dd_some {H : Hp} {z1 z2 c : Addr} {o : HO} (h : dd H z1 z2 c = some o) : c ≠ z1 ∧ c ≠ z2 ∧ H c = some o := by
  unfold dd at h
  by_cases e2 : c = z2
  · rw [e2, del_same] at h; cases h
  · rw [del_ne e2] at h
    by_cases e1 : c = z1
    · rw [e1, del_same] at h; cases h
    · rw [del_ne e1] at h; exact ⟨e1, e2, h⟩
theorem dd_to {H : Hp} {z1 z2 : Addr} : Same (dd H z1 z2) H := fun _ _ h => (dd_some h).2.2
theorem dd_mono {H H' : Hp} {z1 z2 : Addr} (s : Same H H') : Same (dd H z1 z2) (dd H' z1 z2) := fun c o h => by
  obtain ⟨a, b, e⟩ := dd_some h
  rw [dd_ne a b]; exact s _ _ e
/-- all but p and hl stays -/
def Kp (p hl : Addr) (H H' : Hp) : Prop := ∀ c o, H c = some o → c ≠ p → c ≠ hl → H' c = some o
theorem Kp.of {p hl : Addr} {H H' : Hp} (s : Same H H') : Kp p hl H H' := fun c o h _ _ => s c o h
theorem Kp.trans {p hl : Addr} {A B C : Hp} (h : Kp p hl A B) (g : Kp p hl B C) : Kp p hl A C := fun c o e a b => g c o (h c o e a b) a b
theorem Kp.updP {p hl : Addr} {A B : Hp} {o : HO} (h : Kp p hl A B) : Kp p hl A (upd B p o) := fun c u e a b => by rw [upd_ne a]; exact h c u e a b
theorem Kp.updL {p hl : Addr} {A B : Hp} {o : HO} (h : Kp p hl A B) : Kp p hl A (upd B hl o) := fun c u e a b => by rw [upd_ne b]; exact h c u e a b
theorem kp_dd {p hl : Addr} {H H' : Hp} (k : Kp p hl H H') : Same (dd H p hl) (dd H' p hl) := fun c o h => by
  obtain ⟨a, b, e⟩ := dd_some h
  rw [dd_ne a b]; exact k _ _ e a b
def NoTup (H : Hp) (z : Addr) : Prop := ∀ r, H z ≠ some (.tup r)
theorem NoTup.of {H : Hp} {z : Addr} {u : HO} (h : H z = some u) (n : ∀ r, u ≠ .tup r) : NoTup H z := fun r e => n r (Option.some.inj (h.symm.trans e))
theorem lt_keep {p hl a : Addr} {H H' : Hp} {rows : List (List V)} (h : LT H a rows) (k : Kp p hl H H') (hp : NoTup H p) (hh : NoTup H hl) (n1 : a ≠ p) (n2 : a ≠ hl) : LT H' a rows := by
  obtain ⟨qs, q1, q2⟩ := h
  refine ⟨qs, k _ _ q1 n1 n2, paired_imp (fun c r e => ?_) q2⟩
  have e : H c = some (.tup r) := e
  exact k c _ e (fun z => hp r (by rw [← z]; exact e)) (fun z => hh r (by rw [← z]; exact e))
theorem lt_dd {z1 z2 a : Addr} {H : Hp} {rows : List (List V)} (h : LT H a rows) (hp : NoTup H z1) (hh : NoTup H z2) (n1 : a ≠ z1) (n2 : a ≠ z2) : LT (dd H z1 z2) a rows := by
  obtain ⟨qs, q1, q2⟩ := h
  refine ⟨qs, (dd_ne n1 n2).trans q1, paired_imp (fun c r e => ?_) q2⟩
  have e : H c = some (.tup r) := e
  have m1 : c ≠ z1 := fun z => hp r (by rw [← z]; exact e)
  have m2 : c ≠ z2 := fun z => hh r (by rw [← z]; exact e)
  exact (dd_ne m1 m2).trans e
theorem nt_mono {A B H H' : Hp} (h1 : ∀ c, A c = none → H c = none) (h2 : ∀ c o, B c = some o → (A c = none ∨ ∃ r, o = .tup r) → H' c = some o) : Same (nt A B) (nt H H') := fun c o e => by
  unfold nt at e
  split at e
  · rename_i q
    have h3 : A c = none ∨ ∃ r, o = .tup r := q.imp id fun ⟨r, hr⟩ => ⟨r, Option.some.inj (e.symm.trans hr)⟩
    have h4 := h2 c o e h3
    rcases h3 with h3 | ⟨r, rfl⟩
    · rw [nt_new (h1 c h3)]; exact h4
    · exact nt_tup h4
  · cases e
theorem nt_dd {A B : Hp} {z1 z2 : Addr} {u1 u2 : HO} (a1 : A z1 = some u1) (a2 : A z2 = some u2) (b1 : NoTup B z1) (b2 : NoTup B z2) : Same (nt A B) (dd B z1 z2) := fun c o e => by
  unfold nt at e
  split at e
  · rename_i q
    rw [dd_ne]
    · exact e
    · rintro rfl
      rcases q with q | ⟨r, hr⟩
      · rw [a1] at q; cases q
      · exact b1 r hr
    · rintro rfl
      rcases q with q | ⟨r, hr⟩
      · rw [a2] at q; cases q
      · exact b2 r hr
  · cases e
theorem LT.updI {H : Hp} {a p C dx : Addr} {fs : List (Str × V)} {o : HO} {rows : List (List V)} (h : LT H a rows) (hp : H p = some (.ins C dx fs)) : LT (upd H p o) a rows := by
  obtain ⟨qs, q1, q2⟩ := h
  refine ⟨qs, by rw [upd_ne (ne_kind hp q1 (fun z => nomatch z))]; exact q1, paired_imp (fun c r e => ?_) q2⟩
  rw [upd_ne (ne_kind hp e (fun z => nomatch z))]; exact e
section
variable {P : Program} {w : World} {K : PySem.W.Frag} {mg : Str → Option Value} {base : Heap} {ec : Nat → Addr} {CN CB CT CH : Addr}
abbrev s_House__settle : Stmt := inClass (topS 39) 1
abbrev N_House__settle : List Str := ["self"]
theorem sc_House__settle : FnScope ["self"] ["self"] (defScope s_House__settle) := ⟨rfl, rfl, rfl, by decide +kernel, rfl, by decide +kernel, by decide +kernel⟩
def sp_House__settle (CH : Addr) : Sp := fun vs H Q _ => ∃ (p dx : Addr) (fs : List (Str × V)) (tl ol : Addr) (ts : List (Int × Str)) (l : List (Int × Nat)), vs = [.ref p] ∧ H p = some (.ins CH dx fs) ∧ fs.lookup ("_texts" : Str) = some (.ref tl) ∧ fs.lookup ("_order" : Str) = some (.ref ol) ∧ fs.length ≤ 100 ∧
  LT H tl (ts.map hrow) ∧ LT H ol (l.map erow) ∧ GoodTs ts ∧ IsOrder ts l ∧
  ∀ H' ml sl cl L, H' p = some (.ins CH dx (putF "_commons" (.ref cl) (putF "_states" (.ref sl) (putF "_machine" (.ref ml) fs)))) → (∀ c o, H c = some o → c ≠ p → H' c = some o) → H cl = none → IsNum (Can (wds ts)) L → MachAt (nt H H') ml ts L → StAt (nt H H') sl ts L →
    H' cl = some (.lst ((comms (l.map (letE ts))).map fun n => V.int (n : Nat))) → Q .non H'
theorem ok_House__settle {f : Addr} {fd : FuncData} (F : Fun K "_settle" "House._settle" s_House__settle f fd) (TH : TxtH K CH) (h_machine_machine : HasF P w K mg base CX0 "machine_machine" 9 ["house"] sp_machine) (h_states : HasF P w K mg base CX0 "states" 9 ["house"] sp_states)
    (h_commons_of : HasF P w K mg base CX0 "commons_of" 6 ["house", "order"] sp_commons_of) : FnOk P w K mg base CX0 10 f fd ["self"] (sp_House__settle CH) := by
  refine F.ok sc_House__settle (fun vs H Q E h => ?_) (fun cdv A outer s H vs Q E hr h => ?_)
  · obtain ⟨p, dx, fs, tl, ol, ts, l, rfl, _⟩ := h
    rfl
  · obtain ⟨p, dx, fs, tl, ol, ts, l, rfl, hp, hT, hO, hfl, hLT, hLO, hG, hI, hQ⟩ := h
    refine ⟨_, (pss_cons (ps_fld (pv 0) (pe_callG h_machine_machine (hr.mono (by decide)) p0 (pa_cons (pe_fld (pv 0) rfl) pa_nil)) rfl)
      (pss_cons (ps_fld (pv 0) (pe_callG h_states (hr.mono (by decide)) p0 (pa_cons (pe_fld (pv 0) rfl) pa_nil)) rfl)
      (pss_one (ps_fld (pv 0) (pe_callG h_commons_of (hr.mono (by decide)) p0 (pa_cons (pe_fld (pv 0) rfl) (pa_cons (pe_fld (pv 0) rfl) pa_nil))) rfl)))), ?_⟩
    have lk : ∀ {f g : Str} {v : V} {gs : List (Str × V)}, f ≠ g → (putF f v gs).lookup g = gs.lookup g := fun {f g v gs} ne => by rw [lookup_putF, if_neg (Ne.symm ne)]
    refine ⟨_, rfl, p, CH, dx, fs, _, rfl, hp, TH.cl, TH.texts, hT, tl, ts, rfl, hLT, hG, fun H1 ml L s1 fr1 N M1 => ⟨_, rfl, p, CH, dx, fs, rfl, s1 _ _ hp, TH.cl, TH.machine, by omega, ?_⟩⟩
    have hp1 := s1 _ _ hp
    have hT2 := (hLT.same s1).updI (o := .ins CH dx (putF "_machine" (.ref ml) fs)) hp1
    have hO2 := (hLO.same s1).updI (o := .ins CH dx (putF "_machine" (.ref ml) fs)) hp1
    have len1 := length_putF "_machine" (.ref ml) fs
    refine ⟨_, rfl, p, CH, dx, _, _, rfl, upd_same, TH.cl, TH.texts, (lk (by decide)).trans hT, tl, ts, rfl, hT2, hG, fun H2 sl L2 s2 fr2 N2 M2 => ⟨_, rfl, p, CH, dx, _, rfl, s2 _ _ upd_same, TH.cl, TH.states, by omega, ?_⟩⟩
    have hp2 := s2 _ _ upd_same
    have hT3 := (hT2.same s2).updI (o := .ins CH dx (putF "_states" (.ref sl) (putF "_machine" (.ref ml) fs))) hp2
    have hO3 := (hO2.same s2).updI (o := .ins CH dx (putF "_states" (.ref sl) (putF "_machine" (.ref ml) fs))) hp2
    have len2 := length_putF "_states" (.ref sl) (putF "_machine" (.ref ml) fs)
    refine ⟨_, rfl, p, CH, dx, _, _, rfl, upd_same, TH.cl, TH.texts, (lk (by decide)).trans ((lk (by decide)).trans hT), _, rfl, p, CH, dx, _, _, rfl, upd_same, TH.cl, TH.order, (lk (by decide)).trans ((lk (by decide)).trans hO), ?_⟩
    refine ⟨tl, ol, ts, l, rfl, hT3, by have := hG.most; omega, hO3, by have := order_len hG hI; omega, order_ok hG hI, fun cl H3 s3 fr3 hc => ⟨_, rfl, p, CH, dx, _, rfl, s3 _ _ upd_same, TH.cl, TH.commons, by omega, ?_⟩⟩
    have e : L2 = L := N2.uniq N
    subst e
    have ne_cl : cl ≠ p := fun e => by rw [e, upd_same] at fr3; cases fr3
    have k1 : ∀ c o, H1 c = some o → c ≠ p → H2 c = some o := fun c o h n => s2 _ _ (by rw [upd_ne n]; exact h)
    have k2 : ∀ c o, H2 c = some o → c ≠ p → H3 c = some o := fun c o h n => s3 _ _ (by rw [upd_ne n]; exact h)
    have hcl : H cl = none := by
      cases q : H cl with
      | none => rfl
      | some o =>
        have := k1 _ _ (s1 _ _ q) ne_cl
        rw [upd_ne ne_cl, this] at fr3
        cases fr3
    refine hQ _ ml sl cl _ upd_same (fun c o h n => by rw [upd_ne n]; exact k2 _ _ (k1 _ _ (s1 _ _ h) n) n) hcl N (M1.same (nt_mono (fun c h => h) fun c o h q => ?_)) (M2.same (nt_mono (fun c h => ?_) fun c o h q => ?_)) (by rw [upd_ne ne_cl]; exact hc)
    · have n : c ≠ p := by
        rintro rfl
        rcases q with q | ⟨r, rfl⟩
        · rw [hp] at q; cases q
        · rw [hp1] at h; cases h
      rw [upd_ne n]
      exact k2 _ _ (k1 _ _ h n) n
    · by_cases n : c = p
      · rw [n, upd_same] at h; cases h
      · rw [upd_ne n] at h
        exact s1.free h
    · have n : c ≠ p := by
        rintro rfl
        rcases q with q | ⟨r, rfl⟩
        · rw [upd_same] at q; cases q
        · rw [hp2] at h; cases h
      rw [upd_ne n]
      exact k2 _ _ h n
end
end Sfx
end
section
set_option Elab.async false
set_option linter.all false
set_option maxRecDepth 100000
set_option maxHeartbeats 4000000
namespace Sfx
open PySem PySem.Spec L2
/-- an object that stands and is no tuple -/
def Std1 (H : Hp) (z : Addr) : Prop := ∃ u, H z = some u ∧ ∀ r, u ≠ .tup r
theorem Std1.no {H : Hp} {z : Addr} (h : Std1 H z) : NoTup H z := let ⟨_, a, b⟩ := h; NoTup.of a b
theorem Std1.kp {H H' : Hp} {z p hl : Addr} (h : Std1 H z) (k : Kp p hl H H') (n1 : z ≠ p) (n2 : z ≠ hl) : Std1 H' z := let ⟨u, a, b⟩ := h; ⟨u, k _ _ a n1 n2, b⟩
theorem hat_of {CH : Addr} {H6 H7 : Hp} {z1 z2 p : Addr} {d : HD} {ts : List (Int × Str)} {ol : List (Int × Nat)} {hi : List (Str × Int × Str)} {L : List W} {fs : List (Str × V)} (hp : H6 p = some (.ins CH d.dx fs)) (obj : H7 p = some (.ins CH d.dx (hfl d))) (p1 : p ≠ z1) (p2 : p ≠ z2)
    (hz1 : Std1 H6 z1) (hz2 : Std1 H6 z2) (k : ∀ c o, H6 c = some o → c ≠ p → H7 c = some o) (good : GoodTs ts) (ord : IsOrder ts ol) (hT : LT H6 d.tl (ts.map hrow)) (hO : LT H6 d.ol (ol.map erow)) (hH : LT H6 d.hl (hi.map irow))
    (t1 : d.tl ≠ z1) (t2 : d.tl ≠ z2) (o1 : d.ol ≠ z1) (o2 : d.ol ≠ z2) (h1 : d.hl ≠ z1) (h2 : d.hl ≠ z2) (N : IsNum (Can (wds ts)) L) (M : MachAt (nt H6 H7) d.ml ts L) (S : StAt (nt H6 H7) d.sl ts L) (c0 : H6 d.cl = none)
    (c1 : H7 d.cl = some (.lst ((comms (ol.map (letE ts))).map fun n => V.int (n : Nat)))) (last : ∀ w n z, hi.getLast? = some (w, n, z) → (w = wPut ∧ (n, z) ∈ ts) ∨ (w = wTake ∧ PutOk ts n z ∧ Ltr z)) : HAt CH (dd H7 z1 z2) p d ts ol hi := by
  have K : Kp p p H6 H7 := fun c o e n _ => k c o e n
  have np : NoTup H6 p := NoTup.of hp fun r z => by cases z
  have s1 : Std1 H7 z1 := hz1.kp K (Ne.symm p1) (Ne.symm p1)
  have s2 : Std1 H7 z2 := hz2.kp K (Ne.symm p2) (Ne.symm p2)
  have nz : ∀ {z}, Std1 H6 z → d.cl ≠ z := fun ⟨u, a, _⟩ e => by rw [e, a] at c0; cases c0
  have lp : ∀ {a rows}, LT H6 a rows → a ≠ p := fun ⟨qs, q, _⟩ e => by rw [e, hp] at q; cases q
  have lt : ∀ {a rows}, LT H6 a rows → a ≠ z1 → a ≠ z2 → LT (dd H7 z1 z2) a rows := fun h a b => lt_dd (lt_keep h K np np (lp h) (lp h)) s1.no s2.no a b
  obtain ⟨u1, a1, _⟩ := hz1
  obtain ⟨u2, a2, _⟩ := hz2
  have nd : Same (nt H6 H7) (dd H7 z1 z2) := nt_dd a1 a2 s1.no s2.no
  refine ⟨(dd_ne p1 p2).trans obj, good, ord, lt hT t1 t2, lt hO o1 o2, lt hH h1 h2, ⟨L, N, M.same nd, S.same nd⟩, ?_, last⟩
  rw [dd_ne (nz ⟨u1, a1, by assumption⟩) (nz ⟨u2, a2, by assumption⟩)]
  exact c1
theorem ne_std {H : Hp} {z c : Addr} (h : Std1 H z) (g : H c = none) : c ≠ z := fun e => by
  obtain ⟨u, a, _⟩ := h
  rw [e, a] at g; cases g
section
variable {P : Program} {w : World} {K : PySem.W.Frag} {mg : Str → Option Value} {base : Heap} {ec : Nat → Addr} {CN CB CT CH : Addr}
abbrev s_House_init : Stmt := inClass (topS 39) 0
abbrev N_House_init : List Str := ["self"]
theorem sc_House_init : FnScope ["self"] ["self"] (defScope s_House_init) := ⟨rfl, rfl, rfl, by decide +kernel, rfl, by decide +kernel, by decide +kernel⟩
def sp_House_init (CH : Addr) : Sp := fun vs H Q _ => ∃ (p dx : Addr), vs = [.ref p] ∧ H p = some (.ins CH dx []) ∧
  ∀ H' d, (∀ z1 z2, Std1 H z1 → Std1 H z2 → p ≠ z1 → p ≠ z2 → HAt CH (dd H' z1 z2) p d [] [] []) → d.dx = dx → (∀ c o, H c = some o → c ≠ p → H' c = some o) → H d.hl = none → Q .non H'
theorem ok_House_init {f : Addr} {fd : FuncData} (F : Fun K "__init__" "House.__init__" s_House_init f fd) (TH : TxtH K CH) (h_House__settle : HasM P w K mg base CX0 CH "_settle" 10 ["self"] (sp_House__settle CH)) : FnOk P w K mg base CX0 11 f fd ["self"] (sp_House_init CH) := by
  refine F.ok sc_House_init (fun vs H Q E h => ?_) (fun cdv A outer s H vs Q E hr h => ?_)
  · obtain ⟨p, dx, rfl, _⟩ := h
    rfl
  · obtain ⟨p, dx, rfl, hp, hQ⟩ := h
    refine ⟨_, (pss_cons (ps_fld (pv 0) (pe_lst pa_nil) rfl)
      (pss_cons (ps_fld (pv 0) (pe_lst pa_nil) rfl)
      (pss_cons (ps_fld (pv 0) (pe_lst pa_nil) rfl)
      (pss_one (ps_expr (pe_methG0 (pv 0) h_House__settle (hr.mono (by decide)) p0)))))), ?_⟩
    refine ⟨Nat.zero_le _, fun tl htl => ?_⟩
    have ptl : p ≠ tl := ne_of_none hp htl
    refine ⟨_, rfl, p, CH, dx, [], rfl, (by rw [upd_ne ptl]; exact hp), TH.cl, TH.texts, (by decide), ?_⟩
    refine ⟨Nat.zero_le _, fun ol hol => ?_⟩
    have pol : p ≠ ol := ne_of_none upd_same hol
    refine ⟨_, rfl, p, CH, dx, _, rfl, (by rw [upd_ne pol, upd_same]), TH.cl, TH.order, (by show 1 < 1000; decide), ?_⟩
    refine ⟨Nat.zero_le _, fun hl hhl => ?_⟩
    have phl : p ≠ hl := ne_of_none upd_same hhl
    refine ⟨_, rfl, p, CH, dx, _, rfl, (by rw [upd_ne phl, upd_same]), TH.cl, TH.history, (by show 2 < 1000; decide), ?_⟩
    have hol0 : H ol = none ∧ ol ≠ tl := by
      rw [upd_ne (Ne.symm pol)] at hol
      have ne : ol ≠ tl := fun e => by rw [e, upd_same] at hol; cases hol
      rw [upd_ne ne] at hol; exact ⟨hol, ne⟩
    have hhl0 : H hl = none ∧ hl ≠ tl ∧ hl ≠ ol := by
      rw [upd_ne (Ne.symm phl)] at hhl
      have ne : hl ≠ ol := fun e => by rw [e, upd_same] at hhl; cases hhl
      rw [upd_ne ne, upd_ne (Ne.symm phl)] at hhl
      have ne2 : hl ≠ tl := fun e => by rw [e, upd_same] at hhl; cases hhl
      rw [upd_ne ne2] at hhl; exact ⟨hhl, ne2, ne⟩
    obtain ⟨hol1, n1⟩ := hol0
    obtain ⟨hhl1, n2, n3⟩ := hhl0
    have G0 : GoodTs [] := ⟨List.Pairwise.nil, fun t h => (by cases h), fun t h => (by cases h), fun t h => (by cases h), by simp⟩
    have I0 : IsOrder [] [] := ⟨.refl _, List.Pairwise.nil⟩
    have h1 : LT (upd (upd (upd (upd (upd (upd H tl (.lst [])) p (.ins CH dx (putF "_texts" (.ref tl) []))) ol (.lst [])) p (.ins CH dx (putF "_order" (.ref ol) (putF "_texts" (.ref tl) [])))) hl (.lst [])) p (.ins CH dx (putF "_history" (.ref hl) (putF "_order" (.ref ol) (putF "_texts" (.ref tl) []))))) tl (([] : List (Int × Str)).map hrow) :=
      ⟨[], by rw [upd_ne (Ne.symm ptl), upd_ne (Ne.symm n2), upd_ne (Ne.symm ptl), upd_ne (Ne.symm n1), upd_ne (Ne.symm ptl), upd_same]; rfl, .nil⟩
    have h2 : LT (upd (upd (upd (upd (upd (upd H tl (.lst [])) p (.ins CH dx (putF "_texts" (.ref tl) []))) ol (.lst [])) p (.ins CH dx (putF "_order" (.ref ol) (putF "_texts" (.ref tl) [])))) hl (.lst [])) p (.ins CH dx (putF "_history" (.ref hl) (putF "_order" (.ref ol) (putF "_texts" (.ref tl) []))))) ol (([] : List (Int × Nat)).map erow) :=
      ⟨[], by rw [upd_ne (Ne.symm pol), upd_ne (Ne.symm n3), upd_ne (Ne.symm pol), upd_same]; rfl, .nil⟩
    have h3 : LT (upd (upd (upd (upd (upd (upd H tl (.lst [])) p (.ins CH dx (putF "_texts" (.ref tl) []))) ol (.lst [])) p (.ins CH dx (putF "_order" (.ref ol) (putF "_texts" (.ref tl) [])))) hl (.lst [])) p (.ins CH dx (putF "_history" (.ref hl) (putF "_order" (.ref ol) (putF "_texts" (.ref tl) []))))) hl (([] : List (Str × Int × Str)).map irow) :=
      ⟨[], by rw [upd_ne (Ne.symm phl), upd_same]; rfl, .nil⟩
    have k0 : ∀ c o, H c = some o → c ≠ p → upd (upd (upd (upd (upd (upd H tl (.lst [])) p (.ins CH dx (putF "_texts" (.ref tl) []))) ol (.lst [])) p (.ins CH dx (putF "_order" (.ref ol) (putF "_texts" (.ref tl) [])))) hl (.lst [])) p (.ins CH dx (putF "_history" (.ref hl) (putF "_order" (.ref ol) (putF "_texts" (.ref tl) [])))) c = some o := fun c o h n => by
      rw [upd_ne n, upd_ne (ne_of_none h hhl1), upd_ne n, upd_ne (ne_of_none h hol1), upd_ne n, upd_ne (ne_of_none h htl)]; exact h
    refine ⟨_, rfl, p, dx, _, rfl, upd_same, rfl, p, dx, _, tl, ol, [], [], rfl, upd_same, rfl, rfl, (by show 3 ≤ 100; decide), h1, h2, G0, I0, fun H' ml sl cl L g1 g2 g3 N M S g4 => ?_⟩
    refine hQ H' ⟨dx, tl, ol, hl, ml, sl, cl⟩ (fun z1 z2 s1 s2 p1 p2 => ?_) rfl (fun c o h n => g2 _ _ (k0 c o h n) n) hhl1
    have st : ∀ {z}, Std1 H z → p ≠ z → Std1 _ z := fun ⟨u, a, b⟩ n => ⟨u, k0 _ _ a (Ne.symm n), b⟩
    exact hat_of upd_same g1 p1 p2 (st s1 p1) (st s2 p2) g2 G0 I0 h1 h2 h3 (ne_std s1 htl) (ne_std s2 htl) (ne_std s1 hol1) (ne_std s2 hol1) (ne_std s1 hhl1) (ne_std s2 hhl1) N M S g3 g4 (fun w n z h => by cases h)

abbrev s_House_put : Stmt := inClass (topS 39) 2
abbrev N_House_put : List Str := ["self", "number", "text", "after"]
theorem sc_House_put : FnScope ["self", "number", "text", "after"] ["self", "number", "text"] (defScope s_House_put) := ⟨rfl, rfl, rfl, by decide +kernel, rfl, by decide +kernel, by decide +kernel⟩
def sp_House_put (CH : Addr) (ec : Nat → Addr) : Sp := fun vs H Q E => ∃ (z1 z2 p : Addr) (d : HD) (ts : List (Int × Str)) (ol : List (Int × Nat)) (hi : List (Str × Int × Str)) (n : Int) (z : Str), vs = [.ref p, .int n, .str z] ∧ HAt CH (dd H z1 z2) p d ts ol hi ∧ Std1 H z1 ∧ Std1 H z2 ∧ Ltr z ∧ strLen z ≤ 1000 ∧ hi.length ≤ 1000 ∧
  (∀ k, putKind ts n z = some k → Err H E n (ec k)) ∧ (putKind ts n z = none → ∀ H' d' ol', HAt CH (dd H' z1 z2) p d' (insN ts n z) ol' (hi ++ [(wPut, n, z)]) → d'.hl = d.hl → Kp p d.hl H H' → Q .non H')
theorem ok_House_put {f : Addr} {fd : FuncData} (F : Fun K "put" "House.put" s_House_put f fd) (TH : TxtH K CH) (h_with_text : HasF P w K mg base (L2N.CX P w) "with_text" 3 ["house", "number", "text"] (sp_with_text ec))
    (h_order_with : HasF P w K mg base CX0 "order_with" 6 ["house", "order", "number", "text"] sp_order_with) (h_House__settle : HasM P w K mg base CX0 CH "_settle" 10 ["self"] (sp_House__settle CH)) :
    FnOk P w K mg base (L2N.CX P w) 11 f fd ["self", "number", "text"] (sp_House_put CH ec) := by
  refine okXN F sc_House_put (fun vs H Q E h => ?_) (fun cdv A outer s H vs Q E hr h => ?_)
  · obtain ⟨z1, z2, p, d, ts, ol, hi, n, z, rfl, _⟩ := h
    rfl
  · obtain ⟨z1, z2, p, d, ts, ol, hi, n, z, rfl, hA, s1, s2, hz, hzl, hil, hE, hQ⟩ := h
    refine ⟨_, (pss_cons (ps_set (i := 3) sc_House_put.nd rfl (Or.inl rfl) (pe_callG h_with_text (hr.mono (by decide)) (fun σ => L2N.passAt (L2N.takes_of rfl rfl rfl rfl) σ) (pa_cons (pe_fld (pv 0) rfl) (pa_cons (pv 1) (pa_cons (pv 2) pa_nil)))))
      (pss_cons (ps_fld (pv 0) (pe_callG h_order_with (hr.mono (by decide)) p0 (pa_cons (pe_fld (pv 0) rfl) (pa_cons (pe_fld (pv 0) rfl) (pa_cons (pv 1) (pa_cons (pv 2) pa_nil))))) rfl)
      (pss_cons (ps_fld (pv 0) (pv 3) rfl)
      (pss_cons (ps_expr (pe_bm PySem.F.plainAttrs_list PySem.F.slot_list_append PySem.F.type_list_append mt_append (pe_fld (pv 0) rfl) (pa_cons (pe_tup (pa_cons pe_str (pa_cons (pv 1) (pa_cons (pv 2) pa_nil)))) pa_nil)))
      (pss_one (ps_expr (pe_methG0 (pv 0) h_House__settle (hr.mono (by decide)) p0))))))), ?_⟩
    obtain ⟨p1, p2, hp⟩ := dd_some hA.obj
    have hB := hA.same dd_to
    have hG := hA.good
    refine ⟨_, rfl, p, CH, d.dx, _, _, rfl, hp, TH.cl, TH.texts, rfl, _, rfl, _, rfl, d.tl, n, z, ts, rfl, hB.texts, hG.asc, hG.most, hz, hzl, fun k hk => hE k hk, fun hk a H1 t1 fa hLa => ⟨_, rfl, ?_⟩⟩
    have pk := putOk hk
    obtain ⟨qh, hh0, _⟩ := hA.hist
    obtain ⟨hl1, hl2, hh⟩ := dd_some hh0
    have phl : p ≠ d.hl := ne_kind hh hp (fun z => nomatch z)
    have stp : Std1 H p := ⟨_, hp, fun r z => by cases z⟩
    have sth : Std1 H d.hl := ⟨_, hh, fun r z => by cases z⟩
    have hp1 := t1 _ _ hp
    refine ⟨p, CH, d.dx, _, _, rfl, hp1, TH.cl, TH.texts, rfl, _, rfl, p, CH, d.dx, _, _, rfl, hp1, TH.cl, TH.order, rfl, _, rfl, _, rfl, ?_⟩
    refine ⟨d.tl, d.ol, n, z, ts, ol, rfl, hB.texts.same t1, hG, hB.order.same t1, hA.ord, hz, hk, fun o H2 l' t2 fo I' hLo => ⟨_, rfl, p, CH, d.dx, _, rfl, t2 _ _ hp1, TH.cl, TH.order, (by show 6 < 1000; decide), ?_⟩⟩
    refine ⟨_, rfl, _, rfl, p, CH, d.dx, _, rfl, upd_same, TH.cl, TH.texts, (by show 6 < 1000; decide), ?_⟩
    have hp2 := t2 _ _ hp1
    have lh4 : LT (upd (upd H2 p (.ins CH d.dx (putF "_order" (.ref o) (hfl d)))) p (.ins CH d.dx (putF "_texts" (.ref a) (putF "_order" (.ref o) (hfl d))))) d.hl (hi.map irow) := (((hB.hist.same t1).same t2).updI hp2).updI upd_same
    obtain ⟨qh4, hh4, _⟩ := id lh4
    refine ⟨_, rfl, p, CH, d.dx, _, _, rfl, upd_same, TH.cl, TH.history, rfl, .inl ⟨rfl, _, SqL.of hh4⟩, ?_⟩
    refine ⟨_, rfl, _, rfl, (by show 3 ≤ sizeLine; decide), fun t ht => ?_⟩
    obtain ⟨acc, a1, a2, a3⟩ := (lh4.same (same_upd (o := .tup (irow (wPut, n, z))) ht)).app (p := t) (r := irow (wPut, n, z)) upd_same
    refine ⟨d.hl, acc, _, rfl, rfl, a1, smallLt (by rw [a2, List.length_map]; omega), ?_⟩
    have k24 : Kp p d.hl H2 (upd (upd (upd (upd H2 p (.ins CH d.dx (putF "_order" (.ref o) (hfl d)))) p (.ins CH d.dx (putF "_texts" (.ref a) (putF "_order" (.ref o) (hfl d))))) t (.tup (irow (wPut, n, z)))) d.hl (.lst (acc ++ [V.ref t]))) :=
      ((((Kp.of (Same.refl H2)).updP).updP).trans (Kp.of (same_upd ht))).updL
    have hp6 : upd (upd (upd (upd H2 p (.ins CH d.dx (putF "_order" (.ref o) (hfl d)))) p (.ins CH d.dx (putF "_texts" (.ref a) (putF "_order" (.ref o) (hfl d))))) t (.tup (irow (wPut, n, z)))) d.hl (.lst (acc ++ [V.ref t])) p = some (.ins CH d.dx (putF "_texts" (.ref a) (putF "_order" (.ref o) (hfl d)))) := by
      rw [upd_ne phl, upd_ne (ne_of_none upd_same ht), upd_same]
    have e6 : LT (upd (upd (upd (upd H2 p (.ins CH d.dx (putF "_order" (.ref o) (hfl d)))) p (.ins CH d.dx (putF "_texts" (.ref a) (putF "_order" (.ref o) (hfl d))))) t (.tup (irow (wPut, n, z)))) d.hl (.lst (acc ++ [V.ref t]))) d.hl ((hi ++ [(wPut, n, z)]).map irow) := by
      rw [List.map_append]; exact a3
    generalize hH6 : upd (upd (upd (upd H2 p (.ins CH d.dx (putF "_order" (.ref o) (hfl d)))) p (.ins CH d.dx (putF "_texts" (.ref a) (putF "_order" (.ref o) (hfl d))))) t (.tup (irow (wPut, n, z)))) d.hl (.lst (acc ++ [V.ref t])) = H6 at k24 hp6 e6
    have k1 : Kp p d.hl H H1 := Kp.of t1
    have k12 : Kp p d.hl H1 H2 := Kp.of t2
    have stp1 : Std1 H1 p := let ⟨u, x, y⟩ := stp; ⟨u, t1 _ _ x, y⟩
    have sth1 : Std1 H1 d.hl := let ⟨u, x, y⟩ := sth; ⟨u, t1 _ _ x, y⟩
    have stp2 : Std1 H2 p := let ⟨u, x, y⟩ := stp1; ⟨u, t2 _ _ x, y⟩
    have sth2 : Std1 H2 d.hl := let ⟨u, x, y⟩ := sth1; ⟨u, t2 _ _ x, y⟩
    have la6 : LT H6 a ((insN ts n z).map hrow) := lt_keep hLa (k12.trans k24) stp1.no sth1.no (ne_std stp fa) (ne_std sth fa)
    have lo6 : LT H6 o (l'.map erow) := lt_keep hLo k24 stp2.no sth2.no (ne_std stp1 fo) (ne_std sth1 fo)
    have k06 := (k1.trans k12).trans k24
    have st6 : ∀ {y}, Std1 H y → p ≠ y → d.hl ≠ y → Std1 H6 y := fun h a b => h.kp k06 (Ne.symm a) (Ne.symm b)
    have st1' : ∀ {y}, Std1 H y → Std1 H1 y := fun ⟨u, a, b⟩ => ⟨u, t1 _ _ a, b⟩
    have g' := good_insN hG pk hz
    subst hH6
    refine ⟨_, rfl, p, d.dx, _, rfl, hp6, rfl, p, d.dx, _, a, o, insN ts n z, l', rfl, hp6, rfl, rfl, (by show 6 ≤ 100; decide), la6, lo6, g', I', fun H' ml sl cl L g1 g2 g3 N M S g4 => ?_⟩
    refine hQ hk H' ⟨d.dx, a, o, d.hl, ml, sl, cl⟩ l' (hat_of hp6 g1 p1 p2 (st6 s1 p1 hl1) (st6 s2 p2 hl2) g2 g' I' la6 lo6 e6 (ne_std s1 fa) (ne_std s2 fa) (ne_std (st1' s1) fo) (ne_std (st1' s2) fo) hl1 hl2 N M S g3 g4 fun w n' z' h => ?_) rfl (k06.trans fun c x h n _ => g2 c x h n)
    rw [List.getLast?_append] at h
    cases h
    exact .inl ⟨rfl, (mem_insN pk.no).mpr (.inr rfl)⟩
end
end Sfx
end
section
set_option Elab.async false
set_option linter.all false
set_option maxRecDepth 100000
set_option maxHeartbeats 4000000
namespace Sfx
open PySem PySem.Spec L2
theorem atI_neg1 {α : Type} {xs : List α} {v : α} (h : xs[xs.length - 1]? = some v) : atI xs (-1) = some v := by
  have hl : xs.length - 1 < xs.length := (List.getElem?_eq_some_iff.mp h).1
  have e : xs = xs.take (xs.length - 1) ++ [v] := by
    rw [← take_snoc h, Nat.sub_add_cancel (by omega), List.take_length]
  rw [e]
  exact atI_last _ _
theorem putKind_of {ts : List (Int × Str)} {n : Int} {z : Str} (h : PutOk ts n z) : putKind ts n z = none := by
  have ht : (txt ts n).isSome = false := by rw [txt_none.mpr h.no]; rfl
  unfold putKind
  rw [if_neg (by have := h.n0; have := h.n1; omega), ht, if_neg (by simp), if_neg (by have := h.len; omega), if_neg h.room]
theorem putOk_del {ts : List (Int × Str)} {n : Int} {y : Str} (g : GoodTs ts) (h : txt ts n = some y) : PutOk (ts.filter fun t => decide (t.1 ≠ n)) n y ∧ Ltr y := by
  have m := txt_mem h
  refine ⟨⟨(g.num _ m).1, (g.num _ m).2, fun t ht => by simpa using (List.mem_filter.mp ht).2, g.len _ m, ?_⟩, g.ltr _ m⟩
  have h1 : (ts.filter fun t => decide (t.1 ≠ n)).length < ts.length := by
    rw [List.length_filter_lt_length_iff_exists]
    exact ⟨_, m, by simp⟩
  have := g.most
  omega
section
variable {P : Program} {w : World} {K : PySem.W.Frag} {mg : Str → Option Value} {base : Heap} {ec : Nat → Addr} {CN CB CT CH : Addr}
abbrev s_House_take : Stmt := inClass (topS 39) 3
abbrev N_House_take : List Str := ["self", "number", "text"]
theorem sc_House_take : FnScope ["self", "number", "text"] ["self", "number"] (defScope s_House_take) := ⟨rfl, rfl, rfl, by decide +kernel, rfl, by decide +kernel, by decide +kernel⟩
def sp_House_take (CH : Addr) (ec : Nat → Addr) : Sp := fun vs H Q E => ∃ (z1 z2 p : Addr) (d : HD) (ts : List (Int × Str)) (ol : List (Int × Nat)) (hi : List (Str × Int × Str)) (n : Int), vs = [.ref p, .int n] ∧ HAt CH (dd H z1 z2) p d ts ol hi ∧ Std1 H z1 ∧ Std1 H z2 ∧ hi.length ≤ 1000 ∧
  (txt ts n = none → Err H E n (ec 4)) ∧ (∀ y, txt ts n = some y → ∀ H' d' ol', HAt CH (dd H' z1 z2) p d' (ts.filter fun t => decide (t.1 ≠ n)) ol' (hi ++ [(wTake, n, y)]) → d'.hl = d.hl → Kp p d.hl H H' → Q (.str y) H')
theorem ok_House_take {f : Addr} {fd : FuncData} (F : Fun K "take" "House.take" s_House_take f fd) (TH : TxtH K CH) (h_text_of : HasF P w K mg base (L2N.CX P w) "text_of" 3 ["house", "number"] (sp_text_of ec)) (h_order_without : HasF P w K mg base CX0 "order_without" 5 ["house", "order", "number"] sp_order_without)
    (h_without_text : HasF P w K mg base (L2N.CX P w) "without_text" 4 ["house", "number"] (sp_without_text ec)) (h_House__settle : HasM P w K mg base CX0 CH "_settle" 10 ["self"] (sp_House__settle CH)) :
    FnOk P w K mg base (L2N.CX P w) 11 f fd ["self", "number"] (sp_House_take CH ec) := by
  refine okXN F sc_House_take (fun vs H Q E h => ?_) (fun cdv A outer s H vs Q E hr h => ?_)
  · obtain ⟨z1, z2, p, d, ts, ol, hi, n, rfl, _⟩ := h
    rfl
  · obtain ⟨z1, z2, p, d, ts, ol, hi, n, rfl, hA, s1, s2, hil, hE, hQ⟩ := h
    refine ⟨_, (pss_cons (ps_set (i := 2) sc_House_take.nd rfl (Or.inl rfl) (pe_callG h_text_of (hr.mono (by decide)) (fun σ => L2N.passAt (L2N.takes_of rfl rfl rfl rfl) σ) (pa_cons (pe_fld (pv 0) rfl) (pa_cons (pv 1) pa_nil))))
      (pss_cons (ps_fld (pv 0) (pe_callG h_order_without (hr.mono (by decide)) p0 (pa_cons (pe_fld (pv 0) rfl) (pa_cons (pe_fld (pv 0) rfl) (pa_cons (pv 1) pa_nil)))) rfl)
      (pss_cons (ps_fld (pv 0) (pe_callG h_without_text (hr.mono (by decide)) (fun σ => L2N.passAt (L2N.takes_of rfl rfl rfl rfl) σ) (pa_cons (pe_fld (pv 0) rfl) (pa_cons (pv 1) pa_nil))) rfl)
      (pss_cons (ps_expr (pe_bm PySem.F.plainAttrs_list PySem.F.slot_list_append PySem.F.type_list_append mt_append (pe_fld (pv 0) rfl) (pa_cons (pe_tup (pa_cons pe_str (pa_cons (pv 1) (pa_cons (pv 2) pa_nil)))) pa_nil)))
      (pss_cons (ps_expr (pe_methG0 (pv 0) h_House__settle (hr.mono (by decide)) p0))
      (pss_one (ps_ret (pv 2)))))))), ?_⟩
    obtain ⟨p1, p2, hp⟩ := dd_some hA.obj
    have hB := hA.same dd_to
    have hG := hA.good
    refine ⟨_, rfl, p, CH, d.dx, _, _, rfl, hp, TH.cl, TH.texts, rfl, _, rfl, d.tl, n, ts, rfl, hB.texts, fun y hy => ?_, fun hn => hE hn⟩
    obtain ⟨pk, ly⟩ := putOk_del hG hy
    have hsm : (txt ts n).isSome = true := by rw [hy]; rfl
    obtain ⟨qh, hh0, _⟩ := hA.hist
    obtain ⟨hl1, hl2, hh⟩ := dd_some hh0
    have phl : p ≠ d.hl := ne_kind hh hp (fun z => nomatch z)
    have stp : Std1 H p := ⟨_, hp, fun r z => by cases z⟩
    have sth : Std1 H d.hl := ⟨_, hh, fun r z => by cases z⟩
    refine ⟨_, rfl, p, CH, d.dx, _, _, rfl, hp, TH.cl, TH.texts, rfl, _, rfl, p, CH, d.dx, _, _, rfl, hp, TH.cl, TH.order, rfl, _, rfl, ?_⟩
    refine ⟨d.tl, d.ol, n, ts, ol, rfl, hB.texts, hG, hB.order, hA.ord, hsm, fun o H1 l' t1 fo I' hLo => ⟨_, rfl, p, CH, d.dx, _, rfl, t1 _ _ hp, TH.cl, TH.order, (by show 6 < 1000; decide), ?_⟩⟩
    have hp1 := t1 _ _ hp
    refine ⟨_, rfl, p, CH, d.dx, _, _, rfl, upd_same, TH.cl, TH.texts, rfl, _, rfl, d.tl, n, ts, rfl, (hB.texts.same t1).updI hp1, by have := hG.most; omega, (fun h => by rw [hy] at h; cases h), fun _ a H2 t2 fa hLa => ⟨_, rfl, p, CH, d.dx, _, rfl, t2 _ _ upd_same, TH.cl, TH.texts, (by show 6 < 1000; decide), ?_⟩⟩
    have hp2 := t2 _ _ (upd_same (H := H1) (a := p) (o := .ins CH d.dx (putF "_order" (.ref o) (hfl d))))
    have lh4 : LT (upd H2 p (.ins CH d.dx (putF "_texts" (.ref a) (putF "_order" (.ref o) (hfl d))))) d.hl (hi.map irow) := (((hB.hist.same t1).updI hp1).same t2).updI hp2
    obtain ⟨qh4, hh4, _⟩ := id lh4
    refine ⟨_, rfl, p, CH, d.dx, _, _, rfl, upd_same, TH.cl, TH.history, rfl, .inl ⟨rfl, _, SqL.of hh4⟩, ?_⟩
    refine ⟨_, rfl, _, rfl, (by show 3 ≤ sizeLine; decide), fun t ht => ?_⟩
    obtain ⟨acc, a1, a2, a3⟩ := (lh4.same (same_upd (o := .tup (irow (wTake, n, y))) ht)).app (p := t) (r := irow (wTake, n, y)) upd_same
    refine ⟨d.hl, acc, _, rfl, rfl, a1, smallLt (by rw [a2, List.length_map]; omega), ?_⟩
    have k26 : Kp p d.hl H2 (upd (upd (upd H2 p (.ins CH d.dx (putF "_texts" (.ref a) (putF "_order" (.ref o) (hfl d))))) t (.tup (irow (wTake, n, y)))) d.hl (.lst (acc ++ [V.ref t]))) := (((Kp.of (Same.refl H2)).updP).trans (Kp.of (same_upd ht))).updL
    have hp6 : upd (upd (upd H2 p (.ins CH d.dx (putF "_texts" (.ref a) (putF "_order" (.ref o) (hfl d))))) t (.tup (irow (wTake, n, y)))) d.hl (.lst (acc ++ [V.ref t])) p = some (.ins CH d.dx (putF "_texts" (.ref a) (putF "_order" (.ref o) (hfl d)))) := by
      rw [upd_ne phl, upd_ne (ne_of_none upd_same ht), upd_same]
    have e6 : LT (upd (upd (upd H2 p (.ins CH d.dx (putF "_texts" (.ref a) (putF "_order" (.ref o) (hfl d))))) t (.tup (irow (wTake, n, y)))) d.hl (.lst (acc ++ [V.ref t]))) d.hl ((hi ++ [(wTake, n, y)]).map irow) := by
      rw [List.map_append]; exact a3
    generalize hH6 : upd (upd (upd H2 p (.ins CH d.dx (putF "_texts" (.ref a) (putF "_order" (.ref o) (hfl d))))) t (.tup (irow (wTake, n, y)))) d.hl (.lst (acc ++ [V.ref t])) = H6 at k26 hp6 e6
    have k1 : Kp p d.hl H H1 := Kp.of t1
    have k12 : Kp p d.hl H1 H2 := ((Kp.of (Same.refl H1)).updP).trans (Kp.of t2)
    have stp1 : Std1 H1 p := let ⟨u, x, y⟩ := stp; ⟨u, t1 _ _ x, y⟩
    have sth1 : Std1 H1 d.hl := let ⟨u, x, y⟩ := sth; ⟨u, t1 _ _ x, y⟩
    have stp2 : Std1 H2 p := ⟨_, hp2, fun r z => by cases z⟩
    have sth1' : Std1 (upd H1 p (.ins CH d.dx (putF "_order" (.ref o) (hfl d)))) d.hl := let ⟨u, x, y⟩ := sth1; ⟨u, by rw [upd_ne (Ne.symm phl)]; exact x, y⟩
    have sth2 : Std1 H2 d.hl := let ⟨u, x, y⟩ := sth1'; ⟨u, t2 _ _ x, y⟩
    have stp1' : Std1 (upd H1 p (.ins CH d.dx (putF "_order" (.ref o) (hfl d)))) p := ⟨_, upd_same, fun r z => by cases z⟩
    have la6 : LT H6 a ((ts.filter fun t => decide (t.1 ≠ n)).map hrow) := lt_keep hLa k26 stp2.no sth2.no (ne_std stp1' fa) (ne_std sth1' fa)
    have lo6 : LT H6 o (l'.map erow) := lt_keep hLo (k12.trans k26) stp1.no sth1.no (ne_std stp fo) (ne_std sth fo)
    have k06 := (k1.trans k12).trans k26
    have st6 : ∀ {y}, Std1 H y → p ≠ y → d.hl ≠ y → Std1 H6 y := fun h a b => h.kp k06 (Ne.symm a) (Ne.symm b)
    have st1' : ∀ {y}, Std1 H y → p ≠ y → Std1 (upd H1 p (.ins CH d.dx (putF "_order" (.ref o) (hfl d)))) y := fun ⟨u, a, b⟩ c => ⟨u, by rw [upd_ne (Ne.symm c)]; exact t1 _ _ a, b⟩
    have g' := good_del (n := n) hG
    subst hH6
    refine ⟨_, rfl, p, d.dx, _, rfl, hp6, rfl, p, d.dx, _, a, o, _, l', rfl, hp6, rfl, rfl, (by show 6 ≤ 100; decide), la6, lo6, g', I', fun H' ml sl cl L g1 g2 g3 N M S g4 => ?_⟩
    refine ⟨_, rfl, hQ y hy H' ⟨d.dx, a, o, d.hl, ml, sl, cl⟩ l' (hat_of hp6 g1 p1 p2 (st6 s1 p1 hl1) (st6 s2 p2 hl2) g2 g' I' la6 lo6 e6 (ne_std (st1' s1 p1) fa) (ne_std (st1' s2 p2) fa) (ne_std s1 fo) (ne_std s2 fo) hl1 hl2 N M S g3 g4 fun w n' z' h => ?_) rfl (k06.trans fun c x h n _ => g2 c x h n)⟩
    rw [List.getLast?_append] at h
    cases h
    exact .inr ⟨rfl, pk, ly⟩

abbrev s_House_back : Stmt := inClass (topS 39) 4
abbrev N_House_back : List Str := ["self", "word", "number", "text"]
theorem sc_House_back : FnScope ["self", "word", "number", "text"] ["self"] (defScope s_House_back) := ⟨rfl, rfl, rfl, by decide +kernel, rfl, by decide +kernel, by decide +kernel⟩
def sp_House_back (CH : Addr) (ec : Nat → Addr) : Sp := fun vs H Q E => ∃ (z1 z2 p : Addr) (d : HD) (ts : List (Int × Str)) (ol : List (Int × Nat)) (hi : List (Str × Int × Str)), vs = [.ref p] ∧ HAt CH (dd H z1 z2) p d ts ol hi ∧ Std1 H z1 ∧ Std1 H z2 ∧ hi.length ≤ 1000 ∧
  (hi = [] → Err H E 0 (ec 5)) ∧
  (∀ n y, hi.getLast? = some (wPut, n, y) → ∀ H' d' ol', HAt CH (dd H' z1 z2) p d' (ts.filter fun t => decide (t.1 ≠ n)) ol' (hi ++ [(wTake, n, y)]) → d'.hl = d.hl → Kp p d.hl H H' → Q .non H') ∧
  (∀ n y, hi.getLast? = some (wTake, n, y) → ∀ H' d' ol', HAt CH (dd H' z1 z2) p d' (insN ts n y) ol' (hi ++ [(wPut, n, y)]) → d'.hl = d.hl → Kp p d.hl H H' → Q .non H')
theorem ok_House_back {f : Addr} {fd : FuncData} (F : Fun K "back" "House.back" s_House_back f fd) (T : Txt mg) (TH : TxtH K CH) (h_NoChange : HasE P w K mg base "NoChange" (ec 5)) (h_House_take : HasM P w K mg base (L2N.CX P w) CH "take" 11 ["self", "number"] (sp_House_take CH ec))
    (h_House_put : HasM P w K mg base (L2N.CX P w) CH "put" 11 ["self", "number", "text"] (sp_House_put CH ec)) : FnOk P w K mg base (L2N.CX P w) 12 f fd ["self"] (sp_House_back CH ec) := by
  refine okXN F sc_House_back (fun vs H Q E h => ?_) (fun cdv A outer s H vs Q E hr h => ?_)
  · obtain ⟨z1, z2, p, d, ts, ol, hi, rfl, _⟩ := h
    rfl
  · obtain ⟨z1, z2, p, d, ts, ol, hi, rfl, hA, s1, s2, hil, hE, hP, hT⟩ := h
    refine ⟨_, (pss_cons (ps_if (pt_cmpR op_eq (pe_callB (lenQ K) (by rfl) T.len (by decide +kernel) (pa_cons (pe_fld (pv 0) rfl) pa_nil)) pe_int (nomark _))
      (pss_one (ps_raiseE (L2N.takes_of rfl rfl rfl rfl) h_NoChange (hr.mono (by decide)) pe_int))
      pss_nil)
      (pss_cons (ps_asg (pe_ix (ixL K) (pe_fld (pv 0) rfl) (pe_un un_neg pe_int) (fun _ _ => rfl)) (pg_tup rfl (pgs_cons (pg_name (i := 1) sc_House_back.nd rfl (Or.inl rfl)) (pgs_cons (pg_name (i := 2) sc_House_back.nd rfl (Or.inl rfl)) (pgs_cons (pg_name (i := 3) sc_House_back.nd rfl (Or.inl rfl)) pgs_nil)))))
      (pss_one (ps_if (pt_cmpR op_eq (pv 1) pe_str (nomark _))
      (pss_one (ps_expr (pe_methG (pv 0) h_House_take (hr.mono (by decide)) (fun σ => L2N.passAt (L2N.takes_of rfl rfl rfl rfl) σ) (pa_cons (pv 2) pa_nil))))
      (pss_one (ps_expr (pe_methG (pv 0) h_House_put (hr.mono (by decide)) (fun σ => L2N.passAt (L2N.takes_of rfl rfl rfl rfl) σ) (pa_cons (pv 2) (pa_cons (pv 3) pa_nil))))))))), ?_⟩
    obtain ⟨p1, p2, hp⟩ := dd_some hA.obj
    have hB := hA.same dd_to
    have hG := hA.good
    obtain ⟨qs, hh, hpr⟩ := hB.hist
    have hql : qs.length = hi.length := by have := paired_len hpr; rw [List.length_map] at this; exact this
    refine ⟨_, rfl, p, CH, d.dx, _, _, rfl, hp, TH.cl, TH.history, rfl, d.hl, _, rfl, .inl (SqL.of hh), rfl, _, rfl, ?_⟩
    by_cases h0 : hi = []
    · refine if_pos_of (by rw [List.length_map, hql, h0]; rfl) ⟨0, rfl, hE h0⟩
    · refine if_neg_of (by rw [List.length_map, hql]; simp [h0]) ?_
      have hlen : 0 < hi.length := List.length_pos_iff.mpr h0
      obtain ⟨⟨w0, n, y⟩, hlast⟩ : ∃ t, hi.getLast? = some t := ⟨_, List.getLast?_eq_getLast h0⟩
      have hge : hi[hi.length - 1]? = some (w0, n, y) := by rw [← List.getLast?_eq_getElem?]; exact hlast
      obtain ⟨t, ht1, ht2⟩ := paired_get hpr (i := hi.length - 1) (by rw [List.getElem?_map, hge]; rfl)
      refine ⟨_, rfl, p, CH, d.dx, _, _, rfl, hp, TH.cl, TH.history, rfl, ?_⟩
      have hat : atI (qs.map V.ref) (-1) = some (.ref t) := atI_neg1 (by rw [List.length_map, hql, List.getElem?_map, ht1]; rfl)
      refine ⟨_, rfl, d.hl, _, -1, _, rfl, rfl, SqL.of hh, hat, g3 ht2 ?_⟩
      refine ⟨_, rfl, rfl, _, rfl, ?_⟩
      rcases hA.last w0 n y hlast with ⟨rfl, hm⟩ | ⟨rfl, pk, ly⟩
      · have hy := txt_of_mem hG.asc hm
        refine if_pos_of (by simp [wPut]) ?_
        refine ⟨_, rfl, p, d.dx, _, rfl, hp, rfl, _, rfl, z1, z2, p, d, ts, ol, hi, n, rfl, hA, s1, s2, hil, (fun h => by rw [hy] at h; cases h), fun y' hy' H' d' ol' hA' e k => ?_⟩
        rw [hy] at hy'
        cases hy'
        exact hP n y hlast H' d' ol' hA' e k
      · refine if_neg_of (by simp [wTake]; decide) ?_
        refine ⟨_, rfl, p, d.dx, _, rfl, hp, rfl, _, rfl, _, rfl, z1, z2, p, d, ts, ol, hi, n, y, rfl, hA, s1, s2, ly, by have := pk.len; omega, hil, (fun k hk => by rw [putKind_of pk] at hk; cases hk), fun _ H' d' ol' hA' e k => hT n y hlast H' d' ol' hA' e k⟩
end
end Sfx
end
section
set_option Elab.async false
set_option linter.all false
set_option maxRecDepth 100000
set_option maxHeartbeats 4000000
namespace Sfx
open PySem PySem.Spec L2
theorem LT.cpy {H : Hp} {a l : Addr} {rows : List (List V)} (h : LT H a rows) (hl : H l = none) : ∃ xs, H a = some (.lst xs) ∧ LT (upd H l (.lst xs)) l rows := by
  obtain ⟨qs, q1, q2⟩ := h
  exact ⟨_, q1, qs, upd_same, paired_imp (fun _ _ e => same_upd hl _ _ e) q2⟩
section
variable {P : Program} {w : World} {K : PySem.W.Frag} {mg : Str → Option Value} {base : Heap} {ec : Nat → Addr} {CN CB CT CH : Addr}
abbrev s_House_texts : Stmt := inClass (topS 39) 5
abbrev N_House_texts : List Str := ["self"]
theorem sc_House_texts : FnScope ["self"] ["self"] (defScope s_House_texts) := ⟨rfl, rfl, rfl, by decide +kernel, rfl, by decide +kernel, by decide +kernel⟩
def sp_House_texts (CH : Addr) : Sp := fun vs H Q _ => ∃ (G : Hp) (p : Addr) (d : HD) (ts : List (Int × Str)) (ol : List (Int × Nat)) (hi : List (Str × Int × Str)), vs = [.ref p] ∧ HAt CH G p d ts ol hi ∧ Same G H ∧ ∀ H' l, Same H H' → H l = none → LT H' l (ts.map hrow) → Q (.ref l) H'
theorem ok_House_texts {f : Addr} {fd : FuncData} (F : Fun K "texts" "House.texts" s_House_texts f fd) (T : Txt mg) (TH : TxtH K CH) : FnOk P w K mg base CX0 1 f fd ["self"] (sp_House_texts CH) := by
  refine F.ok sc_House_texts (fun vs H Q E h => ?_) (fun cdv A outer s H vs Q E hr h => ?_)
  · obtain ⟨G, p, d, ts, ol, hi, rfl, _⟩ := h
    rfl
  · obtain ⟨G, p, d, ts, ol, hi, rfl, hA, sG, hQ⟩ := h
    refine ⟨_, (pss_one (ps_ret (pe_callTy call_list_of (by rfl) T.list (by decide +kernel) (pa_cons (pe_fld (pv 0) rfl) pa_nil)))), ?_⟩
    have hB := hA.same sG
    obtain ⟨qs, q1, _⟩ := id hB.texts
    refine ⟨_, rfl, p, CH, d.dx, _, _, rfl, hB.obj, TH.cl, TH.texts, rfl, d.tl, _, rfl, .inl (SqL.of q1), fun l hl => ?_⟩
    obtain ⟨xs, x1, x2⟩ := hB.texts.cpy hl
    rw [q1] at x1
    cases x1
    exact hQ _ l (same_upd hl) hl x2
abbrev s_House_order : Stmt := inClass (topS 39) 7
abbrev N_House_order : List Str := ["self"]
theorem sc_House_order : FnScope ["self"] ["self"] (defScope s_House_order) := ⟨rfl, rfl, rfl, by decide +kernel, rfl, by decide +kernel, by decide +kernel⟩
def sp_House_order (CH : Addr) : Sp := fun vs H Q _ => ∃ (G : Hp) (p : Addr) (d : HD) (ts : List (Int × Str)) (ol : List (Int × Nat)) (hi : List (Str × Int × Str)), vs = [.ref p] ∧ HAt CH G p d ts ol hi ∧ Same G H ∧ ∀ H' l, Same H H' → H l = none → LT H' l (ol.map erow) → Q (.ref l) H'
theorem ok_House_order {f : Addr} {fd : FuncData} (F : Fun K "order" "House.order" s_House_order f fd) (T : Txt mg) (TH : TxtH K CH) : FnOk P w K mg base CX0 1 f fd ["self"] (sp_House_order CH) := by
  refine F.ok sc_House_order (fun vs H Q E h => ?_) (fun cdv A outer s H vs Q E hr h => ?_)
  · obtain ⟨G, p, d, ts, ol, hi, rfl, _⟩ := h
    rfl
  · obtain ⟨G, p, d, ts, ol, hi, rfl, hA, sG, hQ⟩ := h
    refine ⟨_, (pss_one (ps_ret (pe_callTy call_list_of (by rfl) T.list (by decide +kernel) (pa_cons (pe_fld (pv 0) rfl) pa_nil)))), ?_⟩
    have hB := hA.same sG
    obtain ⟨qs, q1, _⟩ := id hB.order
    refine ⟨_, rfl, p, CH, d.dx, _, _, rfl, hB.obj, TH.cl, TH.order, rfl, d.ol, _, rfl, .inl (SqL.of q1), fun l hl => ?_⟩
    obtain ⟨xs, x1, x2⟩ := hB.order.cpy hl
    rw [q1] at x1
    cases x1
    exact hQ _ l (same_upd hl) hl x2
abbrev s_House_history : Stmt := inClass (topS 39) 9
abbrev N_House_history : List Str := ["self"]
theorem sc_House_history : FnScope ["self"] ["self"] (defScope s_House_history) := ⟨rfl, rfl, rfl, by decide +kernel, rfl, by decide +kernel, by decide +kernel⟩
def sp_House_history (CH : Addr) : Sp := fun vs H Q _ => ∃ (G : Hp) (p : Addr) (d : HD) (ts : List (Int × Str)) (ol : List (Int × Nat)) (hi : List (Str × Int × Str)), vs = [.ref p] ∧ HAt CH G p d ts ol hi ∧ Same G H ∧ ∀ H' l, Same H H' → H l = none → LT H' l (hi.map irow) → Q (.ref l) H'
theorem ok_House_history {f : Addr} {fd : FuncData} (F : Fun K "history" "House.history" s_House_history f fd) (T : Txt mg) (TH : TxtH K CH) : FnOk P w K mg base CX0 1 f fd ["self"] (sp_House_history CH) := by
  refine F.ok sc_House_history (fun vs H Q E h => ?_) (fun cdv A outer s H vs Q E hr h => ?_)
  · obtain ⟨G, p, d, ts, ol, hi, rfl, _⟩ := h
    rfl
  · obtain ⟨G, p, d, ts, ol, hi, rfl, hA, sG, hQ⟩ := h
    refine ⟨_, (pss_one (ps_ret (pe_callTy call_list_of (by rfl) T.list (by decide +kernel) (pa_cons (pe_fld (pv 0) rfl) pa_nil)))), ?_⟩
    have hB := hA.same sG
    obtain ⟨qs, q1, _⟩ := id hB.hist
    refine ⟨_, rfl, p, CH, d.dx, _, _, rfl, hB.obj, TH.cl, TH.history, rfl, d.hl, _, rfl, .inl (SqL.of q1), fun l hl => ?_⟩
    obtain ⟨xs, x1, x2⟩ := hB.hist.cpy hl
    rw [q1] at x1
    cases x1
    exact hQ _ l (same_upd hl) hl x2
abbrev s_House_commons : Stmt := inClass (topS 39) 8
abbrev N_House_commons : List Str := ["self"]
theorem sc_House_commons : FnScope ["self"] ["self"] (defScope s_House_commons) := ⟨rfl, rfl, rfl, by decide +kernel, rfl, by decide +kernel, by decide +kernel⟩
def sp_House_commons (CH : Addr) : Sp := fun vs H Q _ => ∃ (G : Hp) (p : Addr) (d : HD) (ts : List (Int × Str)) (ol : List (Int × Nat)) (hi : List (Str × Int × Str)), vs = [.ref p] ∧ HAt CH G p d ts ol hi ∧ Same G H ∧ ∀ H' l, Same H H' → H l = none → H' l = some (.lst ((comms (ol.map (letE ts))).map fun n => V.int (n : Nat))) → Q (.ref l) H'
theorem ok_House_commons {f : Addr} {fd : FuncData} (F : Fun K "commons" "House.commons" s_House_commons f fd) (T : Txt mg) (TH : TxtH K CH) : FnOk P w K mg base CX0 1 f fd ["self"] (sp_House_commons CH) := by
  refine F.ok sc_House_commons (fun vs H Q E h => ?_) (fun cdv A outer s H vs Q E hr h => ?_)
  · obtain ⟨G, p, d, ts, ol, hi, rfl, _⟩ := h
    rfl
  · obtain ⟨G, p, d, ts, ol, hi, rfl, hA, sG, hQ⟩ := h
    refine ⟨_, (pss_one (ps_ret (pe_callTy call_list_of (by rfl) T.list (by decide +kernel) (pa_cons (pe_fld (pv 0) rfl) pa_nil)))), ?_⟩
    have hB := hA.same sG
    refine ⟨_, rfl, p, CH, d.dx, _, _, rfl, hB.obj, TH.cl, TH.commons, rfl, d.cl, _, rfl, .inl (SqL.of hB.comm), fun l hl => ?_⟩
    exact hQ _ l (same_upd hl) hl upd_same
abbrev s_House_machine : Stmt := inClass (topS 39) 6
abbrev N_House_machine : List Str := ["self", "edges"]
theorem sc_House_machine : FnScope ["self", "edges"] ["self"] (defScope s_House_machine) := ⟨rfl, rfl, rfl, by decide +kernel, rfl, by decide +kernel, by decide +kernel⟩
def sp_House_machine (CH : Addr) : Sp := fun vs H Q _ => ∃ (G : Hp) (p : Addr) (d : HD) (ts : List (Int × Str)) (ol : List (Int × Nat)) (hi : List (Str × Int × Str)), vs = [.ref p] ∧ HAt CH G p d ts ol hi ∧ Same G H ∧ ∀ H' l L, Same H H' → H l = none → IsNum (Can (wds ts)) L → MachAt H' l ts L → Q (.ref l) H'
theorem ok_House_machine {f : Addr} {fd : FuncData} (F : Fun K "machine" "House.machine" s_House_machine f fd) (T : Txt mg) (TH : TxtH K CH) : FnOk P w K mg base CX0 1 f fd ["self"] (sp_House_machine CH) := by
  refine F.ok sc_House_machine (fun vs H Q E h => ?_) (fun cdv A outer s H vs Q E hr h => ?_)
  · obtain ⟨G, p, d, ts, ol, hi, rfl, _⟩ := h
    rfl
  · obtain ⟨G, p, d, ts, ol, hi, rfl, hA, sG, hQ⟩ := h
    refine ⟨_, (pss_one (ps_ret (pe_lc (own := [("edges", 1)]) (g := (gName 1)) (tt := tYes) rfl sc_House_machine.nd (pi_list (pe_fld (pv 0) rfl)) (blkOk_by (own := [("edges", 1)]) (N := N_House_machine) (sc := defScope s_House_machine) (by decide +kernel)) (fun _ _ _ _ _ => (pg_name (i := 1) sc_House_machine.nd rfl (Or.inl rfl))) (fun _ _ _ _ _ => pts_nil) (fun _ _ _ _ _ => (pe_callTy call_dictD (by rfl) T.dict (by decide +kernel) (pa_cons (pv 1) pa_nil)))))), ?_⟩
    have hB := hA.same sG
    obtain ⟨L, N, M, _⟩ := hB.mach
    obtain ⟨es, h1, h2, h3, h4⟩ := M.ex
    refine ⟨_, rfl, p, CH, d.dx, _, _, rfl, hB.obj, TH.cl, TH.machine, rfl, d.ml, rfl, ⟨_, SqL.of h1⟩, fun D hD => ?_⟩
    have kv : ∀ (i : Nat) (e : Addr), es[i]? = some e → ∃ kvs, H e = some (.dK kvs) := fun i e he => by
      rcases Nat.lt_or_ge i L.length with l | l
      · obtain ⟨e', kvs, a, b, _⟩ := h3 i _ (List.getElem?_eq_getElem l)
        rw [he] at a; cases a
        exact ⟨kvs, b⟩
      · have hi := (List.getElem?_eq_some_iff.mp he).1
        by_cases q : ts = []
        · rw [if_pos q] at h2; omega
        · rw [if_neg q] at h2
          obtain ⟨e', a, b⟩ := h4 q
          have : i = L.length := by omega
          rw [← this, he] at a; cases a
          exact ⟨_, b⟩
    have hesl : es.length ≤ 100000 := by
      have := M.len
      have h5 : (if ts = [] then 0 else 1) ≤ 1 := by split <;> omega
      omega
    refine lc_list (K := K) (a := d.ml) (xs := es.map V.ref) (fun i H' => Same H H' ∧ ∃ fs : List Addr, H' D = some (.lst (fs.map V.ref)) ∧ fs.length = i ∧ ∀ (j : Nat) (e f : Addr), es[j]? = some e → fs[j]? = some f → f ≠ D ∧ ∀ o, H e = some o → H' f = some o)
      ⟨same_upd hD, [], upd_same, rfl, fun j e f _ h => by simp at h⟩ (fun i H' _ ⟨s, _⟩ => SqL.of (s _ _ h1)) ?_ ?_
    · rintro i x H' hx ⟨s1, fs, g1, g2, g3⟩
      rw [List.getElem?_map] at hx
      obtain ⟨e, he, rfl⟩ := Option.map_eq_some_iff.mp hx
      obtain ⟨kvs, hk⟩ := kv i e he
      refine ⟨rfl, ⟨_, rfl, e, kvs, rfl, .inl (s1 _ _ hk), fun f hf => ?_⟩⟩
      have fD : f ≠ D := Ne.symm (ne_of_none g1 hf)
      have hil : i < es.length := (List.getElem?_eq_some_iff.mp he).1
      refine ⟨fs.map V.ref, by rw [upd_ne (Ne.symm fD)]; exact g1, smallLt (by rw [List.length_map]; omega), same_wr (s1.trans (same_upd hf)) hD, fs ++ [f], by rw [upd_same, List.map_append]; rfl, by rw [List.length_append, g2]; rfl, fun j e' f' hj hj' => ?_⟩
      rcases Nat.lt_or_ge j fs.length with l | l
      · rw [List.getElem?_append_left l] at hj'
        obtain ⟨a, b⟩ := g3 j e' f' hj hj'
        exact ⟨a, fun o ho => by rw [upd_ne a]; exact same_upd hf _ _ (b o ho)⟩
      · have hj0 := (List.getElem?_eq_some_iff.mp hj').1
        rw [List.length_append] at hj0
        have hj1 : j = fs.length := by simp at hj0; omega
        subst hj1
        rw [List.getElem?_append_right (Nat.le_refl _), Nat.sub_self] at hj'
        cases hj'
        rw [g2, he] at hj
        cases hj
        exact ⟨fD, fun o ho => by rw [upd_ne fD, upd_same]; rw [hk] at ho; exact ho⟩
    · rintro H' ⟨s1, fs, g1, g2, g3⟩
      rw [List.length_map] at g2
      have fi : ∀ i, i < es.length → ∃ f, fs[i]? = some f := fun i h => ⟨_, List.getElem?_eq_getElem (by omega)⟩
      refine hQ H' D L s1 hD N ⟨M.len, fs, g1, by rw [g2]; exact h2, fun i v hv => ?_, fun q => ?_⟩
      · obtain ⟨e, kvs, a, b, c⟩ := h3 i v hv
        obtain ⟨f, hf⟩ := fi i (List.getElem?_eq_some_iff.mp a).1
        exact ⟨f, kvs, hf, (g3 i e f a hf).2 _ b, c⟩
      · obtain ⟨e, a, b⟩ := h4 q
        obtain ⟨f, hf⟩ := fi _ (List.getElem?_eq_some_iff.mp a).1
        exact ⟨f, hf, (g3 _ e f a hf).2 _ b⟩
end
end Sfx
end
section
set_option Elab.async false
set_option linter.all false
set_option maxRecDepth 100000
set_option maxHeartbeats 4000000
namespace Sfx
open PySem PySem.Spec L2
/-! ### the places of a word -/
def starts (z v : W) : List Nat := (List.range (z.length + 1)).filter fun s => decide ((z.drop s).take v.length = v)
def plc (ts : List (Int × Str)) (v : W) : List (Int × Nat) := ts.flatMap fun t => (starts t.2.cps.toList v).map fun s => (t.1, s)
theorem mem_plc {ts : List (Int × Str)} {v : W} {n : Int} {s : Nat} : (n, s) ∈ plc ts v ↔ ∃ z, (n, z) ∈ ts ∧ s ≤ strLen z ∧ (z.cps.toList.drop s).take v.length = v := by
  unfold plc starts strLen
  simp only [List.mem_flatMap, List.mem_map, List.mem_filter, List.mem_range, decide_eq_true_eq, Prod.mk.injEq]
  constructor
  · rintro ⟨⟨m, z⟩, hm, s', ⟨h1, h2⟩, rfl, rfl⟩
    have h1 : s' < z.cps.toList.length + 1 := h1
    exact ⟨z, hm, by omega, h2⟩
  · rintro ⟨z, hm, h1, h2⟩
    exact ⟨(n, z), hm, s, ⟨by show s < z.cps.toList.length + 1; omega, h2⟩, rfl, rfl⟩
theorem plc_asc {ts : List (Int × Str)} (h : Asc ts) (v : W) : (plc ts v).Pairwise PLt := by
  unfold plc starts
  rw [List.pairwise_flatMap]
  refine ⟨fun t _ => ?_, h.imp fun {a b} hab x hx y hy => .inl ?_⟩
  · rw [List.pairwise_map]
    exact (List.pairwise_lt_range).filter _ |>.imp fun h => .inr ⟨rfl, h⟩
  · obtain ⟨i, _, rfl⟩ := List.mem_map.mp hx
    obtain ⟨j, _, rfl⟩ := List.mem_map.mp hy
    exact hab
theorem plt_uniq {l m : List (Int × Nat)} (h : l.Pairwise PLt) (g : m.Pairwise PLt) (e : ∀ x, x ∈ l ↔ x ∈ m) : l = m := by
  have nd : ∀ {l : List (Int × Nat)}, l.Pairwise PLt → l.Nodup := fun h => h.imp fun {a b} q z => by
    subst z
    rcases q with q | ⟨_, q⟩ <;> omega
  refine List.Perm.eq_of_pairwise (fun a b _ _ h1 h2 => ?_) h g (perm_of_nodup (nd h) (nd g) e)
  rcases h1 with h1 | ⟨h1, h1'⟩ <;> rcases h2 with h2 | ⟨h2, h2'⟩ <;> omega
theorem mem_allOccs {ts : List (Int × Str)} {v : W} {n : Int} {e : Nat} : (n, e) ∈ allOccs ts v ↔ ∃ z, (n, z) ∈ ts ∧ e ≤ strLen z ∧ v <:+ z.cps.toList.take e := by
  unfold allOccs
  rw [List.mem_flatMap]
  constructor
  · rintro ⟨⟨m, z⟩, hm, h⟩
    obtain ⟨rfl, h1, h2⟩ := mem_occs.mp h
    have h1 : e < strLen z + 1 := h1
    exact ⟨z, hm, by omega, h2⟩
  · rintro ⟨z, hm, h1, h2⟩
    exact ⟨(n, z), hm, mem_occs.mpr ⟨rfl, by show e < strLen z + 1; omega, h2⟩⟩
theorem occ_start {z v : W} {e : Nat} (he : e ≤ z.length) (h : v <:+ z.take e) : v.length ≤ e ∧ (z.drop (e - v.length)).take v.length = v := by
  obtain ⟨p, hp⟩ := h
  have hl := congrArg List.length hp
  rw [List.length_append, List.length_take, Nat.min_eq_left he] at hl
  refine ⟨by omega, ?_⟩
  have e1 : (z.take e).drop (e - v.length) = (z.drop (e - v.length)).take v.length := by
    rw [List.drop_take]
    congr 1
    omega
  rw [← e1, ← hp]
  have : e - v.length = p.length := by omega
  rw [this]
  simp
theorem start_occ {z v : W} {s : Nat} (hs : s ≤ z.length) (h : (z.drop s).take v.length = v) : s + v.length ≤ z.length ∧ v <:+ z.take (s + v.length) := by
  have hl := congrArg List.length h
  rw [List.length_take, List.length_drop] at hl
  refine ⟨by omega, ?_⟩
  refine ⟨z.take s, ?_⟩
  rw [List.take_add, h]
theorem plc_of {ts : List (Int × Str)} (ha : Asc ts) (v : W) : (allOccs ts v).map (fun x => (x.1, x.2 - v.length)) = plc ts v := by
  refine plt_uniq ?_ (plc_asc ha v) fun ⟨n, s⟩ => ?_
  · rw [List.pairwise_map]
    refine (allOccs_asc ha v).imp_of_mem fun {a b} hA hB h => ?_
    obtain ⟨n, e⟩ := a
    obtain ⟨m, f⟩ := b
    obtain ⟨z, _, h1, h2⟩ := mem_allOccs.mp hA
    obtain ⟨z', _, h3, h4⟩ := mem_allOccs.mp hB
    have q1 := (occ_start h1 h2).1
    have q2 := (occ_start h3 h4).1
    rcases h with h | ⟨h, g⟩
    · exact .inl h
    · exact .inr ⟨h, by show e - v.length < f - v.length; have : e < f := g; omega⟩
  · rw [mem_plc, List.mem_map]
    constructor
    · rintro ⟨⟨m, e⟩, hm, q⟩
      cases q
      obtain ⟨z, hz, h1, h2⟩ := mem_allOccs.mp hm
      obtain ⟨q1, q2⟩ := occ_start h1 h2
      exact ⟨z, hz, by omega, q2⟩
    · rintro ⟨z, hz, h1, h2⟩
      obtain ⟨q1, q2⟩ := start_occ h1 h2
      exact ⟨(n, s + v.length), mem_allOccs.mpr ⟨z, hz, q1, q2⟩, by simp⟩
theorem allOccs_ext {ts : List (Int × Str)} (ha : Asc ts) {u v : W} (hf : Fac (wds ts) u) (h : Ext (Can (wds ts)) u v) : allOccs ts v = allOccs ts u := by
  refine plt_uniq (allOccs_asc ha v) (allOccs_asc ha u) fun ⟨n, e⟩ => ?_
  rw [mem_allOccs, mem_allOccs]
  constructor
  · rintro ⟨z, hz, h1, h2⟩
    exact ⟨z, hz, h1, h.2.1.trans h2⟩
  · rintro ⟨z, hz, h1, h2⟩
    exact ⟨z, hz, h1, (ext_goes hf h _ (List.mem_cons_of_mem _ (List.mem_map.mpr ⟨_, hz, rfl⟩)) e ⟨h1, h2⟩).2⟩
theorem plc_none {ts : List (Int × Str)} {v : W} (h : ts = [] ∨ ¬ Fac (wds ts) v) : plc ts v = [] := by
  rw [List.eq_nil_iff_forall_not_mem]
  rintro ⟨n, s⟩ hm
  obtain ⟨z, hz, h1, h2⟩ := mem_plc.mp hm
  rcases h with h | h
  · rw [h] at hz; cases hz
  · obtain ⟨q1, q2⟩ := start_occ h1 h2
    exact h ⟨_, List.mem_cons_of_mem _ (List.mem_map.mpr ⟨_, hz, rfl⟩), _, q1, q2⟩
section
variable {P : Program} {w : World} {K : PySem.W.Frag} {mg : Str → Option Value} {base : Heap} {ec : Nat → Addr} {CN CB CT CH : Addr}
abbrev s_House_places : Stmt := inClass (topS 39) 10
abbrev N_House_places : List Str := ["self", "word", "state", "number", "stop"]
theorem sc_House_places : FnScope ["self", "word", "state", "number", "stop"] ["self", "word"] (defScope s_House_places) := ⟨rfl, rfl, rfl, by decide +kernel, rfl, by decide +kernel, by decide +kernel⟩
def sp_House_places (CH : Addr) : Sp := fun vs H Q _ => ∃ (G : Hp) (p : Addr) (d : HD) (ts : List (Int × Str)) (ol : List (Int × Nat)) (hi : List (Str × Int × Str)) (z : Str), vs = [.ref p, .str z] ∧ HAt CH G p d ts ol hi ∧ Same G H ∧ strLen z ≤ 1000 ∧ ∀ H' l, Same H H' → H l = none → LT H' l ((plc ts z.cps.toList).map erow) → Q (.ref l) H'
theorem ok_House_places {f : Addr} {fd : FuncData} (F : Fun K "places" "House.places" s_House_places f fd) (T : Txt mg) (TH : TxtH K CH) (h_state_of : HasF P w K mg base CX0 "state_of" 1 ["edges", "word"] sp_state_of) : FnOk P w K mg base CX0 2 f fd ["self", "word"] (sp_House_places CH) := by
  refine F.ok sc_House_places (fun vs H Q E h => ?_) (fun cdv A outer s H vs Q E hr h => ?_)
  · obtain ⟨G, p, d, ts, ol, hi, z, rfl, _⟩ := h
    rfl
  · obtain ⟨G, p, d, ts, ol, hi, z, rfl, hA, sG, hzl, hQ⟩ := h
    refine ⟨_, (pss_cons (ps_set (i := 2) sc_House_places.nd rfl (Or.inl rfl) (pe_callG h_state_of (hr.mono (by decide)) p0 (pa_cons (pe_fld (pv 0) rfl) (pa_cons (pv 1) pa_nil))))
      (pss_cons (ps_if (PW.pt (pw_or (pt_cmpR op_isN (pv 2) pe_non (nomark _)) (pw_or1 (pt_cmpR op_eq (pe_callB (lenQ K) (by rfl) T.len (by decide +kernel) (pa_cons (pe_fld (pv 0) rfl) pa_nil)) pe_int (nomark _)))))
      (pss_one (ps_ret (pe_lst pa_nil)))
      pss_nil)
      (pss_one (ps_ret (pe_callB cr_sortedM (by rfl) T.sorted (by decide +kernel) (pa_cons (pe_lc (own := [("number", 3), ("stop", 4)]) (g := (gTup K 2 (gCons (gName 3) (gCons (gName 4) gNil)))) (tt := tYes) rfl sc_House_places.nd (pi_list (pe_ix (ixT K) (pe_ix (ixL K) (pe_fld (pv 0) rfl) (pv 2) (fun _ _ => rfl)) pe_int (fun _ _ => rfl))) (blkOk_by (own := [("number", 3), ("stop", 4)]) (N := N_House_places) (sc := defScope s_House_places) (by decide +kernel)) (fun _ _ _ _ _ => (pg_tup rfl (pgs_cons (pg_name (i := 3) sc_House_places.nd rfl (Or.inl rfl)) (pgs_cons (pg_name (i := 4) sc_House_places.nd rfl (Or.inl rfl)) pgs_nil)))) (fun _ _ _ _ _ => pts_nil) (fun _ _ _ _ _ => (pe_tup (pa_cons (pv 3) (pa_cons (pe_op op_sub (pv 4) (pe_callB call_len_str (by rfl) T.len (by decide +kernel) (pa_cons (pv 1) pa_nil))) pa_nil))))) pa_nil)))))), ?_⟩
    have hB := hA.same sG
    have hG := hA.good
    obtain ⟨L, N, M, S⟩ := hB.mach
    obtain ⟨qs, q1, q2, q3⟩ := S.ex
    obtain ⟨xs, hx, hxl⟩ := hB.texts.ref
    rw [List.length_map] at hxl
    have emp : ts = [] ∨ ¬ Fac (wds ts) z.cps.toList → ∀ l, H l = none → Q (.ref l) (upd H l (.lst [])) := fun h l hl => hQ _ l (same_upd hl) hl (by rw [plc_none h]; exact ⟨[], upd_same, .nil⟩)
    refine ⟨_, rfl, p, CH, d.dx, _, _, rfl, hB.obj, TH.cl, TH.machine, rfl, _, rfl, d.ml, ts, L, z, rfl, M, N, fun i v f he hi => ?_, fun f => ?_⟩
    · refine ⟨_, rfl, rfl, _, rfl, if_neg_of (by simp) ?_⟩
      refine ⟨_, rfl, p, CH, d.dx, _, _, rfl, hB.obj, TH.cl, TH.texts, rfl, d.tl, _, rfl, .inl (SqL.of hx), rfl, _, rfl, ?_⟩
      by_cases h0 : ts = []
      · refine if_pos_of (by rw [hxl, h0]; rfl) ⟨Nat.zero_le _, fun l hl => emp (.inl h0) l hl⟩
      · refine if_neg_of (by rw [hxl]; simp [h0]) ?_
        obtain ⟨q, pp, x, y, u, b1, b2, b3⟩ := q3 i v hi
        refine ⟨_, rfl, p, CH, d.dx, _, _, rfl, hB.obj, TH.cl, TH.states, rfl, _, rfl, d.sl, _, _, _, rfl, rfl, SqL.of q1, atI_ref (i := i) (by omega) b1, q, _, 2, _, rfl, rfl, SqT.of b2, rfl, pp, rfl, ⟨_, SqL.of b3.choose_spec.1⟩, fun D hD => ?_⟩
        have e0 := allOccs_ext hG.asc f he
        rw [e0] at b3
        have hol : (allOccs ts z.cps.toList).length ≤ 328 := by
          have := allOccs_len (ts := ts) (v := z.cps.toList) hG.len
          have := hG.most
          omega
        refine lc_LT (K := K) (H0 := H) b3 (fun i H' => Same H H' ∧ LT H' D (((allOccs ts z.cps.toList).take i).map fun x => erow (x.1, x.2 - z.cps.toList.length))) ⟨same_upd hD, by rw [List.take_zero]; exact LT.nil⟩ (fun i H' _ h => h.1) ?_ ?_
        · rintro j r t H' hj ht ⟨s1, g1⟩
          rw [List.getElem?_map] at hj
          obtain ⟨⟨n, e⟩, hne, rfl⟩ := Option.map_eq_some_iff.mp hj
          obtain ⟨zz, _, o1, o2⟩ := mem_allOccs.mp (List.mem_of_getElem? hne)
          have o3 := (occ_start o1 o2).1
          refine g2 ht ⟨rfl, ?_⟩
          refine ⟨_, rfl, _, rfl, _, rfl, z, rfl, small (by show strLen z ≤ _; omega), _, _, rfl, rfl, (by show 2 ≤ sizeLine; decide), fun t2 ht2 => ?_⟩
          have ee : (e : Int) - ((z.length : Nat) : Int) = ((e - z.cps.toList.length : Nat) : Int) := by
            show (e : Int) - ((z.cps.toList.length : Nat) : Int) = _
            omega
          dsimp only
          rw [ee]
          obtain ⟨acc, a1, a2, a3⟩ := (g1.same (same_upd (o := .tup (erow (n, e - z.cps.toList.length))) ht2)).app (p := t2) (r := erow (n, e - z.cps.toList.length)) upd_same
          have hjl : j < (allOccs ts z.cps.toList).length := (List.getElem?_eq_some_iff.mp hne).1
          refine ⟨acc, a1, smallLt (by rw [a2, List.length_map, List.length_take]; omega), same_wr (s1.trans (same_upd ht2)) hD, ?_⟩
          rw [take_snoc hne, List.map_append]
          exact a3
        · rintro H' ⟨s1, g1⟩
          rw [List.length_map, List.take_length] at g1
          have e2 : (allOccs ts z.cps.toList).map (fun x => erow (x.1, x.2 - z.cps.toList.length)) = (plc ts z.cps.toList).map erow := by
            rw [← plc_of hG.asc, List.map_map]; rfl
          rw [e2] at g1
          refine ⟨D, _, [false, false], rfl, g1, by simp, fun r hr => ?_, fun qs' rows' p' hperm hpair hsort hp' => ?_⟩
          · obtain ⟨e, _, rfl⟩ := List.mem_map.mp hr
            rfl
          · have er := sorted_rows (plc_asc hG.asc _) hperm hsort
            subst er
            exact hQ _ p' (s1.trans (same_upd hp')) (s1.free hp') ⟨qs', upd_same, paired_imp (fun _ _ e => same_upd hp' _ _ e) hpair⟩
    · refine ⟨_, rfl, rfl, _, rfl, if_pos_of (by simp) ?_⟩
      exact if_pos_of rfl ⟨Nat.zero_le _, fun l hl => emp (.inr f) l hl⟩

abbrev s_House_count : Stmt := inClass (topS 39) 11
abbrev N_House_count : List Str := ["self", "word"]
theorem sc_House_count : FnScope ["self", "word"] ["self", "word"] (defScope s_House_count) := ⟨rfl, rfl, rfl, by decide +kernel, rfl, by decide +kernel, by decide +kernel⟩
def sp_House_count (CH : Addr) : Sp := fun vs H Q _ => ∃ (G : Hp) (p : Addr) (d : HD) (ts : List (Int × Str)) (ol : List (Int × Nat)) (hi : List (Str × Int × Str)) (z : Str), vs = [.ref p, .str z] ∧ HAt CH G p d ts ol hi ∧ Same G H ∧ strLen z ≤ 1000 ∧ ∀ H', Same H H' → Q (.int ((plc ts z.cps.toList).length : Nat)) H'
theorem ok_House_count {f : Addr} {fd : FuncData} (F : Fun K "count" "House.count" s_House_count f fd) (T : Txt mg) (TH : TxtH K CH) (h_House_places : HasM P w K mg base CX0 CH "places" 2 ["self", "word"] (sp_House_places CH)) : FnOk P w K mg base CX0 3 f fd ["self", "word"] (sp_House_count CH) := by
  refine F.ok sc_House_count (fun vs H Q E h => ?_) (fun cdv A outer s H vs Q E hr h => ?_)
  · obtain ⟨G, p, d, ts, ol, hi, z, rfl, _⟩ := h
    rfl
  · obtain ⟨G, p, d, ts, ol, hi, z, rfl, hA, sG, hzl, hQ⟩ := h
    refine ⟨_, (pss_one (ps_ret (pe_callB (lenQ K) (by rfl) T.len (by decide +kernel) (pa_cons (pe_methG (pv 0) h_House_places (hr.mono (by decide)) p0 (pa_cons (pv 1) pa_nil)) pa_nil)))), ?_⟩
    have hB := hA.same sG
    refine ⟨_, rfl, p, d.dx, _, rfl, hB.obj, rfl, _, rfl, G, p, d, ts, ol, hi, z, rfl, hA, sG, hzl, fun H' l s1 hl hL => ?_⟩
    obtain ⟨xs, hx, hxl⟩ := hL.ref
    rw [List.length_map] at hxl
    refine ⟨l, _, rfl, .inl (SqL.of hx), ?_⟩
    rw [hxl]
    exact hQ H' s1

abbrev s_House_copy : Stmt := inClass (topS 39) 12
abbrev N_House_copy : List Str := ["self", "other"]
theorem sc_House_copy : FnScope ["self", "other"] ["self"] (defScope s_House_copy) := ⟨rfl, rfl, rfl, by decide +kernel, rfl, by decide +kernel, by decide +kernel⟩
def sp_House_copy (CH : Addr) : Sp := fun vs H Q _ => ∃ (G : Hp) (p : Addr) (d : HD) (ts : List (Int × Str)) (ol : List (Int × Nat)) (hi : List (Str × Int × Str)), vs = [.ref p] ∧ HAt CH G p d ts ol hi ∧ Same G H ∧
  ∀ H' p' d', (∀ z1 z2, Std1 H z1 → Std1 H z2 → HAt CH (dd H' z1 z2) p' d' ts ol hi) → Same H H' → H p' = none → H d'.hl = none → Q (.ref p') H'
theorem ok_House_copy {f : Addr} {fd : FuncData} (F : Fun K "copy" "House.copy" s_House_copy f fd) (T : Txt mg) (TH : TxtH K CH) (h_House : HasC P w K mg base CX0 "House" CH 11 ["self"] (sp_House_init CH)) (h_House__settle : HasM P w K mg base CX0 CH "_settle" 10 ["self"] (sp_House__settle CH)) :
    FnOk P w K mg base CX0 13 f fd ["self"] (sp_House_copy CH) := by
  refine F.ok sc_House_copy (fun vs H Q E h => ?_) (fun cdv A outer s H vs Q E hr h => ?_)
  · obtain ⟨G, p, d, ts, ol, hi, rfl, _⟩ := h
    rfl
  · obtain ⟨G, p, d, ts, ol, hi, rfl, hA, sG, hQ⟩ := h
    refine ⟨_, (pss_cons (ps_set (i := 1) sc_House_copy.nd rfl (Or.inl rfl) (pe_makeG0 h_House (hr.mono (by decide))))
      (pss_cons (ps_fld (pv 1) (pe_callTy call_list_of (by rfl) T.list (by decide +kernel) (pa_cons (pe_fld (pv 0) rfl) pa_nil)) rfl)
      (pss_cons (ps_fld (pv 1) (pe_callTy call_list_of (by rfl) T.list (by decide +kernel) (pa_cons (pe_fld (pv 0) rfl) pa_nil)) rfl)
      (pss_cons (ps_fld (pv 1) (pe_callTy call_list_of (by rfl) T.list (by decide +kernel) (pa_cons (pe_fld (pv 0) rfl) pa_nil)) rfl)
      (pss_cons (ps_expr (pe_methG0 (pv 1) h_House__settle (hr.mono (by decide)) p0))
      (pss_one (ps_ret (pv 1)))))))), ?_⟩
    have hB := hA.same sG
    have hG := hA.good
    intro x dx nx ndx nex
    have sA : Same H (upd (upd H dx (.own x)) x (.ins CH dx [])) := same_to (same_upd ndx) (by rw [upd_ne (Ne.symm nex)]; exact nx)
    have px : p ≠ x := ne_of_none hB.obj nx
    refine ⟨x, dx, rfl, upd_same, fun H1 d1 at1 edx k1 fh1 => ⟨rfl, ?_⟩⟩
    subst edx
    have s1 : Same H H1 := fun c o h => k1 _ _ (sA _ _ h) (ne_of_none h nx)
    have stp : Std1 (upd (upd H d1.dx (.own x)) x (.ins CH d1.dx [])) p := ⟨_, sA _ _ hB.obj, fun r z => by cases z⟩
    have hx1 : H1 x = some (.ins CH d1.dx (hfl d1)) := (dd_some (at1 p p stp stp (Ne.symm px) (Ne.symm px)).obj).2.2
    have hC := hB.same s1
    have hT := hC.texts
    have hO := hC.order
    have hH := hC.hist
    obtain ⟨qt, t1, _⟩ := id hT
    have hp1 := hC.obj
    -- texts
    refine ⟨_, rfl, p, CH, d.dx, _, _, rfl, hp1, TH.cl, TH.texts, rfl, d.tl, _, rfl, .inl (SqL.of t1), fun l1 hl1 => ?_⟩
    have xl1 : x ≠ l1 := ne_of_none hx1 hl1
    refine ⟨_, rfl, x, CH, d1.dx, _, rfl, (by rw [upd_ne xl1]; exact hx1), TH.cl, TH.texts, (by show 6 < 1000; decide), ?_⟩
    have s2 : Same H1 (upd H1 l1 (.lst (qt.map V.ref))) := same_upd hl1
    obtain ⟨xs1, e1, T1⟩ := hT.cpy hl1
    rw [t1] at e1; cases e1
    have hp2 : upd (upd H1 l1 (.lst (qt.map V.ref))) x (.ins CH d1.dx (putF "_texts" (.ref l1) (hfl d1))) p = some (.ins CH d.dx (hfl d)) := by rw [upd_ne px]; exact s2 _ _ hp1
    have hx1' : upd H1 l1 (.lst (qt.map V.ref)) x = some (.ins CH d1.dx (hfl d1)) := s2 _ _ hx1
    have O2 := (hO.same s2).updI (o := .ins CH d1.dx (putF "_texts" (.ref l1) (hfl d1))) hx1'
    have H2' := (hH.same s2).updI (o := .ins CH d1.dx (putF "_texts" (.ref l1) (hfl d1))) hx1'
    have T2 := T1.updI (o := .ins CH d1.dx (putF "_texts" (.ref l1) (hfl d1))) hx1'
    have k2 : ∀ c o, H c = some o → upd (upd H1 l1 (.lst (qt.map V.ref))) x (.ins CH d1.dx (putF "_texts" (.ref l1) (hfl d1))) c = some o := fun c o h => by rw [upd_ne (ne_of_none h nx)]; exact s2 _ _ (s1 _ _ h)
    have hx2 : upd (upd H1 l1 (.lst (qt.map V.ref))) x (.ins CH d1.dx (putF "_texts" (.ref l1) (hfl d1))) x = some (.ins CH d1.dx (putF "_texts" (.ref l1) (hfl d1))) := upd_same
    generalize hE2 : upd (upd H1 l1 (.lst (qt.map V.ref))) x (.ins CH d1.dx (putF "_texts" (.ref l1) (hfl d1))) = H2 at hp2 O2 H2' T2 k2 hx2 ⊢
    have fl1 : H l1 = none := s1.free hl1
    -- order
    obtain ⟨qo, o1, _⟩ := id O2
    refine ⟨_, rfl, p, CH, d.dx, _, _, rfl, hp2, TH.cl, TH.order, rfl, d.ol, _, rfl, .inl (SqL.of o1), fun l2 hl2 => ?_⟩
    refine ⟨_, rfl, x, CH, d1.dx, _, rfl, (by rw [upd_ne (ne_of_none hx2 hl2)]; exact hx2), TH.cl, TH.order, (by show 6 < 1000; decide), ?_⟩
    have s3 : Same H2 (upd H2 l2 (.lst (qo.map V.ref))) := same_upd hl2
    have fl2 : H l2 = none := by
      cases q : H l2 with
      | none => rfl
      | some o => rw [k2 _ _ q] at hl2; cases hl2
    obtain ⟨xs2, e2, O3'⟩ := O2.cpy hl2
    rw [o1] at e2; cases e2
    have hx2' := s3 _ _ hx2
    have O3 := O3'.updI (o := .ins CH d1.dx (putF "_order" (.ref l2) (putF "_texts" (.ref l1) (hfl d1)))) hx2'
    have T3 := (T2.same s3).updI (o := .ins CH d1.dx (putF "_order" (.ref l2) (putF "_texts" (.ref l1) (hfl d1)))) hx2'
    have H3' := (H2'.same s3).updI (o := .ins CH d1.dx (putF "_order" (.ref l2) (putF "_texts" (.ref l1) (hfl d1)))) hx2'
    have hp3 : upd (upd H2 l2 (.lst (qo.map V.ref))) x (.ins CH d1.dx (putF "_order" (.ref l2) (putF "_texts" (.ref l1) (hfl d1)))) p = some (.ins CH d.dx (hfl d)) := by rw [upd_ne px]; exact s3 _ _ hp2
    have k3 : ∀ c o, H c = some o → upd (upd H2 l2 (.lst (qo.map V.ref))) x (.ins CH d1.dx (putF "_order" (.ref l2) (putF "_texts" (.ref l1) (hfl d1)))) c = some o := fun c o h => by rw [upd_ne (ne_of_none h nx)]; exact s3 _ _ (k2 _ _ h)
    have hx3 : upd (upd H2 l2 (.lst (qo.map V.ref))) x (.ins CH d1.dx (putF "_order" (.ref l2) (putF "_texts" (.ref l1) (hfl d1)))) x = some (.ins CH d1.dx (putF "_order" (.ref l2) (putF "_texts" (.ref l1) (hfl d1)))) := upd_same
    generalize hE3 : upd (upd H2 l2 (.lst (qo.map V.ref))) x (.ins CH d1.dx (putF "_order" (.ref l2) (putF "_texts" (.ref l1) (hfl d1)))) = H3 at hp3 O3 H3' T3 k3 hx3 ⊢
    -- history
    obtain ⟨qh, h1, _⟩ := id H3'
    refine ⟨_, rfl, p, CH, d.dx, _, _, rfl, hp3, TH.cl, TH.history, rfl, d.hl, _, rfl, .inl (SqL.of h1), fun l3 hl3 => ?_⟩
    refine ⟨_, rfl, x, CH, d1.dx, _, rfl, (by rw [upd_ne (ne_of_none hx3 hl3)]; exact hx3), TH.cl, TH.history, (by show 6 < 1000; decide), ?_⟩
    have s4 : Same H3 (upd H3 l3 (.lst (qh.map V.ref))) := same_upd hl3
    have fl3 : H l3 = none := by
      cases q : H l3 with
      | none => rfl
      | some o => rw [k3 _ _ q] at hl3; cases hl3
    obtain ⟨xs3, e3, H4'⟩ := H3'.cpy hl3
    rw [h1] at e3; cases e3
    have hx3' := s4 _ _ hx3
    have O4 := (O3.same s4).updI (o := .ins CH d1.dx (putF "_history" (.ref l3) (putF "_order" (.ref l2) (putF "_texts" (.ref l1) (hfl d1))))) hx3'
    have T4 := (T3.same s4).updI (o := .ins CH d1.dx (putF "_history" (.ref l3) (putF "_order" (.ref l2) (putF "_texts" (.ref l1) (hfl d1))))) hx3'
    have H4 := H4'.updI (o := .ins CH d1.dx (putF "_history" (.ref l3) (putF "_order" (.ref l2) (putF "_texts" (.ref l1) (hfl d1))))) hx3'
    have k4 : ∀ c o, H c = some o → upd (upd H3 l3 (.lst (qh.map V.ref))) x (.ins CH d1.dx (putF "_history" (.ref l3) (putF "_order" (.ref l2) (putF "_texts" (.ref l1) (hfl d1))))) c = some o := fun c o h => by rw [upd_ne (ne_of_none h nx)]; exact s4 _ _ (k3 _ _ h)
    have hx4 : upd (upd H3 l3 (.lst (qh.map V.ref))) x (.ins CH d1.dx (putF "_history" (.ref l3) (putF "_order" (.ref l2) (putF "_texts" (.ref l1) (hfl d1))))) x = some (.ins CH d1.dx (putF "_history" (.ref l3) (putF "_order" (.ref l2) (putF "_texts" (.ref l1) (hfl d1))))) := upd_same
    generalize hE4 : upd (upd H3 l3 (.lst (qh.map V.ref))) x (.ins CH d1.dx (putF "_history" (.ref l3) (putF "_order" (.ref l2) (putF "_texts" (.ref l1) (hfl d1))))) = H5 at O4 T4 H4 k4 hx4 ⊢
    refine ⟨_, rfl, x, d1.dx, _, rfl, hx4, rfl, x, d1.dx, _, l1, l2, ts, ol, rfl, hx4, rfl, rfl, (by show 6 ≤ 100; decide), T4, O4, hG, hA.ord, fun H' ml sl cl L g1 g2 g3 N M S g4 => ?_⟩
    have sF : Same H H' := fun c o h => g2 _ _ (k4 _ _ h) (ne_of_none h nx)
    refine ⟨_, rfl, hQ H' x ⟨d1.dx, l1, l2, l3, ml, sl, cl⟩ (fun z1 z2 st1 st2 => ?_) sF nx fl3⟩
    have st : ∀ {z}, Std1 H z → Std1 H5 z := fun ⟨u, a, b⟩ => ⟨u, k4 _ _ a, b⟩
    exact hat_of hx4 g1 (ne_std st1 nx) (ne_std st2 nx) (st st1) (st st2) g2 hG hA.ord T4 O4 H4 (ne_std st1 fl1) (ne_std st2 fl1) (ne_std st1 fl2) (ne_std st2 fl2) (ne_std st1 fl3) (ne_std st2 fl3) N M S g3 g4 hA.last
end
end Sfx
end
section
set_option Elab.async false
set_option linter.all false
set_option maxRecDepth 100000
set_option maxHeartbeats 4000000
namespace Sfx
open PySem PySem.Spec L2
section
variable {P : Program} {w : World} {K : PySem.W.Frag} {mg : Str → Option Value} {base : Heap} {ec : Nat → Addr} {CN CB CT CH : Addr}
abbrev s__law_text : Stmt := topS 42
abbrev N__law_text : List Str := ["_law_drawn", "_law_more", "_law_most", "_law_text_here", "_law_rest", "_law_k"]
theorem sc__law_text : FnScope ["_law_drawn", "_law_more", "_law_most", "_law_text_here", "_law_rest", "_law_k"] ["_law_drawn", "_law_more", "_law_most"] (defScope s__law_text) := ⟨rfl, rfl, rfl, by decide +kernel, rfl, by decide +kernel, by decide +kernel⟩
def sp__law_text : Sp := fun vs H Q _ => ∃ (a b m : Int), vs = [.int a, .int b, .int m] ∧ 0 ≤ m ∧ m ≤ 1000 ∧ ∀ z, Ltr z → (strLen z : Int) ≤ m → Q (.str z) H
theorem ltr_app {x : Str} {c : Nat} (h : Ltr x) (hc : c = 97 ∨ c = 98 ∨ c = 122) : Ltr (x ++ sgn c) := fun d hd => by
  have e : (x ++ sgn c).cps.toList = x.cps.toList ++ [c] := by
    show (x.cps ++ #[c]).toList = _
    simp
  rw [e] at hd
  rcases List.mem_append.mp hd with h1 | h1
  · exact h d h1
  · have : d = c := by simpa using h1
    rw [this]; exact hc
theorem len_app (x : Str) (c : Nat) : strLen (x ++ sgn c) = strLen x + 1 := by
  have e : (x ++ sgn c).cps.toList = x.cps.toList ++ [c] := by
    show (x.cps ++ #[c]).toList = _
    simp
  unfold strLen
  rw [e, List.length_append]; rfl
theorem abz_at (i : Int) (h0 : 0 ≤ i) (h3 : i < 3) : ∃ c, atI ("abz" : Str).cps.toList i = some c ∧ (c = 97 ∨ c = 98 ∨ c = 122) := by
  have : i = 0 ∨ i = 1 ∨ i = 2 := by omega
  rcases this with rfl | rfl | rfl
  · exact ⟨97, by decide +kernel, .inl rfl⟩
  · exact ⟨98, by decide +kernel, .inr (.inl rfl)⟩
  · exact ⟨122, by decide +kernel, .inr (.inr rfl)⟩
theorem ok__law_text {f : Addr} {fd : FuncData} (F : Fun K "_law_text" "_law_text" s__law_text f fd) (T : Txt mg) : FnOk P w K mg base CX0 1 f fd ["_law_drawn", "_law_more", "_law_most"] sp__law_text := by
  refine F.ok sc__law_text (fun vs H Q E h => ?_) (fun cdv A outer s H vs Q E hr h => ?_)
  · obtain ⟨a, b, m, rfl, _⟩ := h
    rfl
  · obtain ⟨a, b, m, rfl, h0, hm, hQ⟩ := h
    refine ⟨_, (pss_cons (ps_set (i := 3) sc__law_text.nd rfl (Or.inl rfl) pe_str)
      (pss_cons (ps_set (i := 4) sc__law_text.nd rfl (Or.inl rfl) (pe_callTy call_int1 (by rfl) T.int (by decide +kernel) (pa_cons (pe_op op_add (pv 0) (pe_op op_mul pe_int (pv 1))) pa_nil)))
      (pss_cons (ps_for PassesOwn.never rfl (pi_range1 rfl T.range (pa_cons (pe_op op_mod (pe_callTy call_int1 (by rfl) T.int (by decide +kernel) (pa_cons (pv 1) pa_nil)) (pe_op op_add (pv 2) pe_int)) pa_nil)) (pg_name (i := 5) sc__law_text.nd rfl (Or.inl rfl))
      (pss_cons (ps_set (i := 3) sc__law_text.nd rfl (Or.inl rfl) (pe_op op_add_str (pv 3) (pe_ix ix_str pe_str (pe_op op_mod (pe_callTy call_int1 (by rfl) T.int (by decide +kernel) (pa_cons (pe_op op_add (pv 4) (pe_op op_mul (pv 5) (pe_op op_mod (pv 0) pe_int))) pa_nil)) pe_int) (fun _ _ => rfl))))
      (pss_one (ps_set (i := 4) sc__law_text.nd rfl (Or.inl rfl) (pe_op op_fdiv (pv 4) pe_int)))))
      (pss_one (ps_ret (pv 3)))))), ?_⟩
    have hmod := Int.emod_nonneg b (show m + 1 ≠ 0 by omega)
    have hmod2 := Int.emod_lt_of_pos b (show 0 < m + 1 by omega)
    refine ⟨_, rfl, _, rfl, _, _, rfl, rfl, .inl (by decide), _, _, rfl, rfl, .inl ⟨_, rfl, ?_⟩⟩
    refine ⟨_, rfl, .inl ⟨_, rfl, _, rfl, _, _, rfl, rfl, _, _, rfl, rfl, by omega, _, rfl, by omega, by omega, ?_⟩⟩
    refine for_range (fun i σ H' => H' = H ∧ ∃ (z : Str) (r : Int) (v5 : Option V), σ = [some (.int a), some (.int b), some (.int m), some (.str z), some (.int r), v5] ∧ Ltr z ∧ strLen z = i) ⟨rfl, _, _, none, rfl, fun c hc => (by cases hc), rfl⟩ ?_ ?_
    · rintro i σ H' hi ⟨rfl, z, r, v5, rfl, hz, hl⟩
      have hi' : (i : Int) < 1001 := by omega
      have r0 := Int.emod_nonneg (r + (0 + (i : Int)) * (a % 5)) (show (3 : Int) ≠ 0 by decide)
      have r3 := Int.emod_lt_of_pos (r + (0 + (i : Int)) * (a % 5)) (show (0 : Int) < 3 by decide)
      obtain ⟨c, hc, hc3⟩ := abz_at _ r0 r3
      refine ⟨_, rfl, _, rfl, _, rfl, _, rfl, _, _, rfl, rfl, (by show (0 : Int) < 5; decide), _, _, rfl, rfl, .inl ⟨by omega, by omega⟩, _, _, rfl, rfl, .inl ⟨_, rfl, _, _, rfl, rfl, (by show (0 : Int) < 3; decide), "abz", _, c, rfl, rfl, small (by decide), hc, _, _, rfl, rfl, ?_, ?_⟩⟩
      · refine small ?_
        show strLen z + 1 ≤ 100000
        omega
      refine ⟨_, rfl, _, _, rfl, rfl, ⟨by decide, by decide⟩, rfl, _, _, _, rfl, ltr_app hz hc3, ?_⟩
      exact (len_app z c).trans (by omega)
    · rintro σ H' ⟨rfl, z, r, v5, rfl, hz, hl⟩
      exact ⟨_, rfl, hQ z hz (by omega)⟩
theorem filter_range {p : Nat → Bool} {n : Nat} : ∀ {m : Nat}, n ≤ m → (∀ s, n ≤ s → s < m → p s = false) → (List.range m).filter p = (List.range n).filter p
  | 0, h, _ => by
    have : n = 0 := by omega
    subst this; rfl
  | m + 1, h, g => by
    rcases Nat.eq_or_lt_of_le h with e | l
    · rw [e]
    · rw [List.range_succ, List.filter_append, filter_range (by omega) fun s a b => g s a (by omega)]
      simp [g m (by omega) (by omega)]
def stK (n : Int) (z v : W) (k : Nat) : List (Int × Nat) := ((List.range k).filter fun s => decide ((z.drop s).take v.length = v)).map fun s => (n, s)
theorem plc_take {ts : List (Int × Str)} {i : Nat} {t : Int × Str} {v : W} (h : ts[i]? = some t) : plc (ts.take (i + 1)) v = plc (ts.take i) v ++ (starts t.2.cps.toList v).map fun s => (t.1, s) := by
  unfold plc
  rw [take_snoc h, List.flatMap_append]
  simp
theorem stK_end {n : Int} {z v : W} {k : Nat} (h : k = ((z.length : Int) - v.length + 1).toNat) : stK n z v k = (starts z v).map fun s => (n, s) := by
  unfold stK starts
  rw [filter_range (n := k) (m := z.length + 1)]
  · omega
  · intro s h1 h2
    rw [decide_eq_false]
    intro e
    have := congrArg List.length e
    rw [List.length_take, List.length_drop] at this
    omega
theorem stK_len {n : Int} {z v : W} {k : Nat} : (stK n z v k).length ≤ k := by
  unfold stK
  rw [List.length_map]
  exact Nat.le_trans (List.length_filter_le _ _) (Nat.le_of_eq List.length_range)
theorem plc_len {ts : List (Int × Str)} {v : W} (h : ∀ t ∈ ts, strLen t.2 ≤ 1000) : (plc ts v).length ≤ 1001 * ts.length := by
  unfold plc
  induction ts with
  | nil => simp
  | cons t r ih =>
    have h1 := h t List.mem_cons_self
    have h2 := ih fun x hx => h x (List.mem_cons_of_mem _ hx)
    have h3 : (starts t.2.cps.toList v).length ≤ strLen t.2 + 1 := by
      unfold starts
      exact Nat.le_trans (List.length_filter_le _ _) (Nat.le_of_eq List.length_range)
    rw [List.flatMap_cons, List.length_append, List.length_cons, List.length_map]
    omega
abbrev s__law_places : Stmt := topS 43
abbrev N__law_places : List Str := ["_law_texts", "_law_word", "_law_found", "_law_number_here", "_law_text_here", "_law_start"]
theorem sc__law_places : FnScope ["_law_texts", "_law_word", "_law_found", "_law_number_here", "_law_text_here", "_law_start"] ["_law_texts", "_law_word"] (defScope s__law_places) := ⟨rfl, rfl, rfl, by decide +kernel, rfl, by decide +kernel, by decide +kernel⟩
def sp__law_places : Sp := fun vs H Q _ => ∃ (a : Addr) (ts : List (Int × Str)) (z : Str), vs = [.ref a, .str z] ∧ LT H a (ts.map hrow) ∧ strLen z ≤ 1000 ∧ (∀ t ∈ ts, strLen t.2 ≤ 1000) ∧ ts.length ≤ 8 ∧ ∀ H' l, Same H H' → H l = none → LT H' l ((plc ts z.cps.toList).map erow) → Q (.ref l) H'
theorem ok__law_places {f : Addr} {fd : FuncData} (F : Fun K "_law_places" "_law_places" s__law_places f fd) (T : Txt mg) : FnOk P w K mg base CX0 1 f fd ["_law_texts", "_law_word"] sp__law_places := by
  refine F.ok sc__law_places (fun vs H Q E h => ?_) (fun cdv A outer s H vs Q E hr h => ?_)
  · obtain ⟨a, ts, z, rfl, _⟩ := h
    rfl
  · obtain ⟨a, ts, z, rfl, hL, hzl, htl, h8, hQ⟩ := h
    refine ⟨_, (pss_cons (ps_set (i := 2) sc__law_places.nd rfl (Or.inl rfl) (pe_lst pa_nil))
      (pss_cons (ps_for PassesOwn.never rfl (pi_list (pv 0)) (pg_tup rfl (pgs_cons (pg_name (i := 3) sc__law_places.nd rfl (Or.inl rfl)) (pgs_cons (pg_name (i := 4) sc__law_places.nd rfl (Or.inl rfl)) pgs_nil)))
      (pss_one (ps_for PassesOwn.never rfl (pi_range1 rfl T.range (pa_cons (pe_op op_add (pe_op op_sub (pe_callB call_len_str (by rfl) T.len (by decide +kernel) (pa_cons (pv 4) pa_nil)) (pe_callB call_len_str (by rfl) T.len (by decide +kernel) (pa_cons (pv 1) pa_nil))) pe_int) pa_nil)) (pg_name (i := 5) sc__law_places.nd rfl (Or.inl rfl))
      (pss_one (ps_if (pt_cmpR op_eq (pe_slice sl_str (pv 4) (po_some (pv 5)) (po_some (pe_op op_add (pv 5) (pe_callB call_len_str (by rfl) T.len (by decide +kernel) (pa_cons (pv 1) pa_nil))))) (pv 1) (nomark _))
      (pss_one (ps_expr (pe_bm PySem.F.plainAttrs_list PySem.F.slot_list_append PySem.F.type_list_append mt_append (pv 2) (pa_cons (pe_tup (pa_cons (pv 3) (pa_cons (pv 5) pa_nil))) pa_nil))))
      pss_nil)))))
      (pss_one (ps_ret (pv 2))))), ?_⟩
    refine ⟨Nat.zero_le _, fun D hD => ⟨_, rfl, a, rfl, ⟨_, SqL.of (same_upd hD _ _ hL.choose_spec.1)⟩, ?_⟩⟩
    refine for_LT (K := K) hL (fun i σ H' => ∃ (v3 v4 v5 : Option V), σ = [some (.ref a), some (.str z), some (.ref D), v3, v4, v5] ∧ Same H H' ∧ LT H' D ((plc (ts.take i) z.cps.toList).map erow)) ⟨none, none, none, rfl, same_upd hD, LT.nil⟩ (fun i σ H' _ ⟨_, _, _, _, s, _⟩ => s) ?_ ?_
    · rintro i r p σ H' hi hp ⟨v3, v4, v5, rfl, s1, g1⟩
      rw [List.getElem?_map] at hi
      obtain ⟨⟨n, y⟩, hny, rfl⟩ := Option.map_eq_some_iff.mp hi
      refine g2 hp ?_
      have hyl : strLen y ≤ 1000 := htl _ (List.mem_of_getElem? hny)
      have yl : y.length = y.cps.toList.length := rfl
      have zl : z.length = z.cps.toList.length := rfl
      have hyl' : y.cps.toList.length ≤ 1000 := hyl
      have hzl' : z.cps.toList.length ≤ 1000 := hzl
      have hi8 : i < 8 := Nat.lt_of_lt_of_le (List.getElem?_eq_some_iff.mp hny).1 h8
      have hpl : (plc (ts.take i) z.cps.toList).length ≤ 8008 := by
        have h1 := plc_len (ts := ts.take i) (v := z.cps.toList) fun t ht => htl t (List.mem_of_mem_take ht)
        rw [List.length_take] at h1
        have h2 : 1001 * min i ts.length ≤ 1001 * 8 := Nat.mul_le_mul_left _ (by omega)
        omega
      refine ⟨_, rfl, y, rfl, small (by omega), _, rfl, z, rfl, small (by omega), _, _, rfl, rfl, _, _, rfl, rfl, _, rfl, by omega, by omega, ?_⟩
      refine for_range (fun k σ H' => ∃ (v5 : Option V), σ = [some (.ref a), some (.str z), some (.ref D), some (.int n), some (.str y), v5] ∧ Same H H' ∧ LT H' D ((plc (ts.take i) z.cps.toList ++ stK n y.cps.toList z.cps.toList k).map erow)) ⟨v5, rfl, s1, by unfold stK; simpa using g1⟩ ?_ ?_
      · rintro k σ H2 hk ⟨v5, rfl, s2, g2'⟩
        rw [Int.zero_add]
        have hk' : k < 1001 := by omega
        refine ⟨_, rfl, _, rfl, _, rfl, _, rfl, _, rfl, z, rfl, small (by omega), _, _, rfl, rfl, _, rfl, y, rfl, small (by omega), ?_⟩
        have ec : ((k : Nat) : Int) + ((z.length : Nat) : Int) = ((k + z.length : Nat) : Int) := by omega
        dsimp only
        rw [ec, cutS_nat]
        refine ⟨_, rfl, rfl, _, rfl, ?_⟩
        have ed : (y.cps.toList.take (k + z.length)).drop k = (y.cps.toList.drop k).take z.cps.toList.length := by
          rw [List.drop_take, Nat.add_sub_cancel_left]; rfl
        rw [ed]
        by_cases hm : (y.cps.toList.drop k).take z.cps.toList.length = z.cps.toList
        · refine if_pos_of (by rw [hm, toS_of]; simp) ?_
          obtain ⟨acc0, q1, _⟩ := id g2'
          refine ⟨_, rfl, .inl ⟨rfl, _, SqL.of q1⟩, _, rfl, _, rfl, (by show 2 ≤ sizeLine; decide), fun t ht => ?_⟩
          obtain ⟨acc, a1, a2, a3⟩ := (g2'.same (same_upd (o := .tup (erow (n, k))) ht)).app (p := t) (r := erow (n, k)) upd_same
          have hsl := stK_len (n := n) (z := y.cps.toList) (v := z.cps.toList) (k := k)
          refine ⟨D, acc, _, rfl, rfl, a1, smallLt (by rw [a2, List.length_map, List.length_append]; omega), ?_⟩
          refine ⟨_, rfl, same_wr (s2.trans (same_upd ht)) hD, ?_⟩
          have e3 : stK n y.cps.toList z.cps.toList (k + 1) = stK n y.cps.toList z.cps.toList k ++ [(n, k)] := by
            unfold stK
            rw [List.range_succ, List.filter_append, List.map_append, List.filter_cons, if_pos (decide_eq_true hm)]
            rfl
          rw [e3, ← List.append_assoc, List.map_append]
          exact a3
        · refine if_neg_of (fun q => hm ?_) ?_
          · have q' := of_decide_eq_true q
            injection q' with q'
            rw [← toS_list ((y.cps.toList.drop k).take z.cps.toList.length), q']
          · refine ⟨_, rfl, s2, ?_⟩
            have e3 : stK n y.cps.toList z.cps.toList (k + 1) = stK n y.cps.toList z.cps.toList k := by
              unfold stK
              rw [List.range_succ, List.filter_append, List.filter_cons, if_neg (fun q => hm (of_decide_eq_true q)), List.filter_nil, List.append_nil]
            rw [e3]
            exact g2'
      · rintro σ H2 ⟨v5, rfl, s2, g2'⟩
        refine ⟨_, _, _, rfl, s2, ?_⟩
        rw [stK_end (by rw [yl, zl])] at g2'
        rw [plc_take hny]
        exact g2'
    · rintro σ H' ⟨v3, v4, v5, rfl, s1, g1⟩
      rw [List.length_map, List.take_length] at g1
      exact ⟨_, rfl, hQ H' D s1 hD g1⟩
end
end Sfx
end
section
set_option Elab.async false
set_option linter.all false
set_option maxRecDepth 100000
set_option maxHeartbeats 4000000
namespace Sfx
open PySem PySem.Spec L2
theorem cutV_ints (ns : List Int) (lo hi : Option Int) : ∃ ms : List Int, cutV (ns.map V.int) lo hi = ms.map V.int ∧ ms.length = HT.sIx ns.length ns.length hi - HT.sIx ns.length 0 lo := by
  refine ⟨(ns.drop (HT.sIx ns.length 0 lo)).take (HT.sIx ns.length ns.length hi - HT.sIx ns.length 0 lo), ?_, ?_⟩
  · unfold cutV
    rw [List.length_map, List.map_take, List.map_drop]
  · rw [List.length_take, List.length_drop]
    have := HT.sIx_le ns.length ns.length (Nat.le_refl _) hi
    omega
section
variable {P : Program} {w : World} {K : PySem.W.Frag} {mg : Str → Option Value} {base : Heap} {ec : Nat → Addr} {CN CB CT CH : Addr}
abbrev s__law_number : Stmt := topS 55
abbrev N__law_number : List Str := ["_law_drawn", "_law_more", "_law_texts"]
theorem sc__law_number : FnScope ["_law_drawn", "_law_more", "_law_texts"] ["_law_drawn", "_law_more", "_law_texts"] (defScope s__law_number) := ⟨rfl, rfl, rfl, by decide +kernel, rfl, by decide +kernel, by decide +kernel⟩
def sp__law_number : Sp := fun vs H Q _ => ∃ (a b : Int) (t : Addr) (ts : List (Int × Str)), vs = [.int a, .int b, .ref t] ∧ LT H t (ts.map hrow) ∧ ts.length ≤ 8 ∧ ∀ n : Int, Q (.int n) H
theorem ok__law_number {f : Addr} {fd : FuncData} (F : Fun K "_law_number" "_law_number" s__law_number f fd) (T : Txt mg) : FnOk P w K mg base CX0 1 f fd ["_law_drawn", "_law_more", "_law_texts"] sp__law_number := by
  refine F.ok sc__law_number (fun vs H Q E h => ?_) (fun cdv A outer s H vs Q E hr h => ?_)
  · obtain ⟨a, b, t, ts, rfl, _⟩ := h
    rfl
  · obtain ⟨a, b, t, ts, rfl, hL, h8, hQ⟩ := h
    refine ⟨_, (pss_cons (ps_if (pt_cmpR op_eq (pe_op op_mod (pe_callTy call_int1 (by rfl) T.int (by decide +kernel) (pa_cons (pv 0) pa_nil)) pe_int) pe_int (nomark _))
      (pss_one (ps_ret (pe_op op_add pe_int (pe_op op_mod (pe_callTy call_int1 (by rfl) T.int (by decide +kernel) (pa_cons (pv 1) pa_nil)) pe_int))))
      pss_nil)
      (pss_cons (ps_if (pt_cmpR op_eq (pe_op op_mod (pe_callTy call_int1 (by rfl) T.int (by decide +kernel) (pa_cons (pv 0) pa_nil)) pe_int) pe_int (nomark _))
      (pss_one (ps_ret (pe_op op_mod (pe_callTy call_int1 (by rfl) T.int (by decide +kernel) (pa_cons (pv 1) pa_nil)) pe_int)))
      pss_nil)
      (pss_cons (ps_if (PW.pt (pw_and (pt_cmpR op_eq (pe_op op_mod (pe_callTy call_int1 (by rfl) T.int (by decide +kernel) (pa_cons (pv 0) pa_nil)) pe_int) pe_int (nomark _)) (pw_and1 (pt_cmpR op_gt (pe_callB (lenQ K) (by rfl) T.len (by decide +kernel) (pa_cons (pv 2) pa_nil)) pe_int (nomark _)))))
      (pss_one (ps_ret (pe_ix (ixT K) (pe_ix (ixL K) (pv 2) (pe_op op_mod (pe_callTy call_int1 (by rfl) T.int (by decide +kernel) (pa_cons (pv 1) pa_nil)) (pe_callB (lenQ K) (by rfl) T.len (by decide +kernel) (pa_cons (pv 2) pa_nil))) (fun _ _ => rfl)) pe_int (fun _ _ => rfl))))
      pss_nil)
      (pss_one (ps_ret (pe_op op_mod (pe_callTy call_int1 (by rfl) T.int (by decide +kernel) (pa_cons (pv 1) pa_nil)) pe_int)))))), ?_⟩
    obtain ⟨qs, hx, hpr⟩ := id hL
    have hxl : qs.length = ts.length := by have := paired_len hpr; rw [List.length_map] at this; exact this
    refine ⟨_, rfl, .inl ⟨_, rfl, _, _, rfl, rfl, (by show (0 : Int) < 13; decide), rfl, _, rfl, ?_⟩⟩
    by_cases c1 : a % 13 = 0
    · exact if_pos_of (by simp [c1]) ⟨_, rfl, .inl ⟨_, rfl, _, _, rfl, rfl, (by show (0 : Int) < 3; decide), _, _, rfl, rfl, hQ _⟩⟩
    refine if_neg_of (by simp [c1]) ?_
    refine ⟨_, rfl, .inl ⟨_, rfl, _, _, rfl, rfl, (by show (0 : Int) < 3; decide), rfl, _, rfl, ?_⟩⟩
    by_cases c2 : a % 3 = 0
    · exact if_pos_of (by simp [c2]) ⟨_, rfl, .inl ⟨_, rfl, _, _, rfl, rfl, (by show (0 : Int) < 100; decide), hQ _⟩⟩
    refine if_neg_of (by simp [c2]) ?_
    have fin : ∃ v, [some (V.int a), some (V.int b), some (V.ref t)][1]? = some (some v) := ⟨_, rfl⟩
    refine ⟨_, rfl, .inl ⟨_, rfl, _, _, rfl, rfl, (by show (0 : Int) < 3; decide), rfl, _, rfl, ?_⟩⟩
    by_cases c3 : a % 3 = 1
    · refine if_pos_of (by simp [c3]) ?_
      refine ⟨_, rfl, t, _, rfl, .inl (SqL.of hx), _, _, rfl, rfl, _, rfl, ?_⟩
      by_cases c4 : ts = []
      · refine if_neg_of (by rw [List.length_map, hxl, c4]; simp) ?_
        exact ⟨_, rfl, .inl ⟨_, rfl, _, _, rfl, rfl, (by show (0 : Int) < 12; decide), hQ _⟩⟩
      · have hp : 0 < ts.length := List.length_pos_iff.mpr c4
        refine if_pos_of (by rw [List.length_map, hxl]; simp; omega) ?_
        have m0 := Int.emod_nonneg b (show ((qs.map V.ref).length : Int) ≠ 0 by rw [List.length_map]; omega)
        have m1 := Int.emod_lt_of_pos b (show (0 : Int) < ((qs.map V.ref).length : Int) by rw [List.length_map]; omega)
        rw [List.length_map] at m0 m1
        obtain ⟨i, hi⟩ : ∃ i : Nat, b % ((qs.length : Nat) : Int) = (i : Int) := ⟨(b % ((qs.length : Nat) : Int)).toNat, by omega⟩
        have hil : i < qs.length := by omega
        have hq : qs[i]? = some qs[i] := List.getElem?_eq_getElem hil
        obtain ⟨r, r1, r2⟩ := paired_get1 hpr hq
        rw [List.getElem?_map] at r1
        obtain ⟨⟨n, y⟩, _, rfl⟩ := Option.map_eq_some_iff.mp r1
        refine ⟨_, rfl, _, rfl, .inl ⟨_, rfl, _, rfl, t, _, rfl, .inl (SqL.of hx), _, _, rfl, rfl, (by show (0 : Int) < ((qs.map V.ref).length : Nat); rw [List.length_map]; omega), t, _, _, _, rfl, rfl, SqL.of hx, atI_ref (i := i) (by rw [List.length_map]; exact hi) hq, _, _, 0, _, rfl, rfl, SqT.of r2, rfl, hQ _⟩⟩
    · refine if_neg_of (by simp [c3]) ?_
      exact if_neg_of (by simp) ⟨_, rfl, .inl ⟨_, rfl, _, _, rfl, rfl, (by show (0 : Int) < 12; decide), hQ _⟩⟩
abbrev s__law_numbers : Stmt := topS 41
abbrev N__law_numbers : List Str := ["_law_script", "_law_many", "_law_rest", "_law_mixed", "_law_numbers_here", "_law_k", "_law_at", "_law_cell"]
theorem sc__law_numbers : FnScope ["_law_script", "_law_many", "_law_rest", "_law_mixed", "_law_numbers_here", "_law_k", "_law_at", "_law_cell"] ["_law_script", "_law_many"] (defScope s__law_numbers) := ⟨rfl, rfl, rfl, by decide +kernel, rfl, by decide +kernel, by decide +kernel⟩
theorem sq_same {K : PySem.W.Frag} {H H' : Hp} {a : Addr} {xs : List V} (h : SqL K H a xs) (s : Same H H') : SqL K H' a xs := h.imp (fun r => r.imp (s _ _) fun ⟨o, q⟩ => ⟨o, s _ _ q⟩) id
def sp__law_numbers (K : PySem.W.Frag) : Sp := fun vs H Q _ => ∃ (a : Addr) (ns : List Int) (m : Int), vs = [.ref a, .int m] ∧ SqL K H a (ns.map V.int) ∧ ns.length ≤ 1000 ∧ 0 ≤ m ∧ m ≤ 1000 ∧ ∀ H' l (xs : List Int), Same H H' → H l = none → H' l = some (.lst (xs.map V.int)) → xs.length = m.toNat → (∀ x ∈ xs, 0 ≤ x ∧ x < 65536) → Q (.ref l) H'
theorem ok__law_numbers {f : Addr} {fd : FuncData} (F : Fun K "_law_numbers" "_law_numbers" s__law_numbers f fd) (T : Txt mg) : FnOk P w K mg base CX0 1 f fd ["_law_script", "_law_many"] (sp__law_numbers K) := by
  refine F.ok sc__law_numbers (fun vs H Q E h => ?_) (fun cdv A outer s H vs Q E hr h => ?_)
  · obtain ⟨a, ns, m, rfl, _⟩ := h
    rfl
  · obtain ⟨a, ns, m, rfl, ha, hnl, hm0, hm1, hQ⟩ := h
    refine ⟨_, (pss_cons (ps_set (i := 2) sc__law_numbers.nd rfl (Or.inl rfl) (pe_op op_cat (pe_lc (own := [("_law_cell", 7)]) (g := (gName 7)) (tt := tYes) rfl sc__law_numbers.nd (pi_list (pe_slice (slL K) (pv 0) po_none (po_some pe_int))) (blkOk_by (own := [("_law_cell", 7)]) (N := N__law_numbers) (sc := defScope s__law_numbers) (by decide +kernel)) (fun _ _ _ _ _ => (pg_name (i := 7) sc__law_numbers.nd rfl (Or.inl rfl))) (fun _ _ _ _ _ => pts_nil) (fun _ _ _ _ _ => (pe_callB call_abs (by rfl) T.abs (by decide +kernel) (pa_cons (pv 7) pa_nil)))) (pe_lst (pa_cons pe_int pa_nil))))
      (pss_cut (ps_if (pt_cmpR op_gt (pe_callB (lenQ K) (by rfl) T.len (by decide +kernel) (pa_cons (pv 0) pa_nil)) pe_int (nomark _))
      (pss_one (ps_set (i := 2) sc__law_numbers.nd rfl (Or.inl rfl) (pe_slice (slL K) (pv 2) po_none (po_some (pe_un un_neg pe_int)))))
      pss_nil)
      (pss_cons (ps_setLc (i := 3) (own := [("_law_cell", 7)]) (g := (gName 7)) (tt := tYes) rfl sc__law_numbers.nd rfl rfl (sw_true rfl rfl rfl (by decide +kernel)) (pi_list (pv 2)) (blkOk_by (own := [("_law_cell", 7)]) (N := N__law_numbers) (sc := defScope s__law_numbers) (by decide +kernel)) (fun _ _ _ _ _ => (pg_name (i := 7) sc__law_numbers.nd rfl (Or.inl rfl))) (fun _ _ _ _ _ => pts_nil) (fun _ _ _ _ _ => (pe_op op_mod (pe_callTy call_int1 (by rfl) T.int (by decide +kernel) (pa_cons (pe_op op_add (pe_op op_mul (pv 7) pe_int) pe_int) pa_nil)) pe_int)))
      (pss_cons (ps_set (i := 4) sc__law_numbers.nd rfl (Or.inl rfl) (pe_lst pa_nil))
      (pss_cons (ps_for PassesOwn.never rfl (pi_range1 rfl T.range (pa_cons (pv 1) pa_nil)) (pg_name (i := 5) sc__law_numbers.nd rfl (Or.inl rfl))
      (pss_cons (ps_set (i := 6) sc__law_numbers.nd rfl (Or.inl rfl) (pe_op op_mod (pe_callTy call_int1 (by rfl) T.int (by decide +kernel) (pa_cons (pv 5) pa_nil)) (pe_callB (lenQ K) (by rfl) T.len (by decide +kernel) (pa_cons (pv 2) pa_nil))))
      (pss_one (ps_if (pt_cmpR op_ge (pe_ix (ixL K) (pv 2) (pv 6) (fun _ _ => rfl)) (pe_op op_pow pe_int pe_int) (nomark _))
      (pss_cons (ps_expr (pe_bm PySem.F.plainAttrs_list PySem.F.slot_list_append PySem.F.type_list_append mt_append (pv 4) (pa_cons (pe_op op_mod (pe_callTy call_int1 (by rfl) T.int (by decide +kernel) (pa_cons (pe_ix (ixL K) (pv 2) (pv 6) (fun _ _ => rfl)) pa_nil)) pe_int) pa_nil)))
      (pss_one (ps_asg (pe_op op_fdiv (pe_ix (ixL K) (pv 2) (pv 6) (fun _ _ => rfl)) pe_int) (pg_sub (pv 2) (pv 6) set_list))))
      (pss_cons (ps_asg (pe_op op_mod (pe_callTy call_int1 (by rfl) T.int (by decide +kernel) (pa_cons (pe_op op_add (pe_op op_add (pe_op op_mul (pe_ix (ixL K) (pv 3) (pv 6) (fun _ _ => rfl)) pe_int) pe_int) (pe_op op_mul pe_int (pv 5))) pa_nil)) pe_int) (pg_sub (pv 3) (pv 6) set_list))
      (pss_one (ps_expr (pe_bm PySem.F.plainAttrs_list PySem.F.slot_list_append PySem.F.type_list_append mt_append (pv 4) (pa_cons (pe_op op_mod (pe_callTy call_int1 (by rfl) T.int (by decide +kernel) (pa_cons (pe_op op_add (pe_ix (ixL K) (pv 2) (pv 6) (fun _ _ => rfl)) (pe_op op_fdiv (pe_ix (ixL K) (pv 3) (pv 6) (fun _ _ => rfl)) pe_int)) pa_nil)) pe_int) pa_nil)))))))))
      (pss_one (ps_ret (pv 4)))))))), ?_⟩
    refine ⟨_, rfl, _, rfl, a, _, rfl, ha, fun c0 hc0 => ?_⟩
    obtain ⟨ms, e0, ml⟩ := cutV_ints ns none (some 63)
    have eml : ms.length = min 63 ns.length := by rw [ml]; show HT.sIx ns.length ns.length (some ((63 : Nat) : Int)) - 0 = _; rw [HT.sIx_nat, Nat.sub_zero]
    rw [e0]
    have s0 : Same H (upd H c0 (.lst (ms.map V.int))) := same_upd hc0
    refine ⟨c0, rfl, ⟨_, SqL.of upd_same⟩, fun D hD => ?_⟩
    have DH : H D = none := s0.free hD
    have cD : c0 ≠ D := ne_of_none upd_same hD
    refine lc_list (K := K) (a := c0) (xs := ms.map V.int) (fun i H' => Same (upd H c0 (.lst (ms.map V.int))) H' ∧ ∃ as : List Int, as.length = i ∧ H' D = some (.lst (as.map V.int))) ⟨same_upd hD, [], rfl, upd_same⟩ (fun i H' _ ⟨s, _⟩ => SqL.of (s _ _ upd_same)) ?_ ?_
    · rintro i v H' hv ⟨s1, as, g1, g2⟩
      rw [List.getElem?_map] at hv
      obtain ⟨y, hy, rfl⟩ := Option.map_eq_some_iff.mp hv
      have hil : i < ms.length := (List.getElem?_eq_some_iff.mp hy).1
      refine ⟨rfl, ⟨_, rfl, y, rfl, _, g2, smallLt (by rw [List.length_map]; omega), same_wr s1 hD, as ++ [_], by rw [List.length_append, g1]; rfl, by rw [upd_same, List.map_append]; rfl⟩⟩
    rintro H2 ⟨s1, as, g1, g2⟩
    rw [List.length_map] at g1
    refine ⟨(by show 1 ≤ sizeLine; decide), fun e he => ?_⟩
    have De : D ≠ e := ne_of_none g2 he
    refine ⟨D, e, _, _, rfl, rfl, same_upd he _ _ g2, upd_same, small (by rw [List.length_map]; simp; omega), fun p hp => ?_⟩
    have s2 : Same H (upd (upd H2 e (.lst [V.int 0])) p (.lst (as.map V.int ++ [V.int 0]))) := same_to (same_to (s0.trans s1) he) hp
    have pH : H p = none := (same_to (s0.trans s1) he).free hp
    refine ⟨fun σ' H' => ∃ (r : Addr) (rs : List Int), σ' = [some (.ref a), some (.int m), some (.ref r), none, none, none, none, none] ∧ Same H H' ∧ H r = none ∧ H' r = some (.lst (rs.map V.int)) ∧ 1 ≤ rs.length ∧ rs.length ≤ 64, ?_, ?_⟩
    · refine ⟨_, rfl, a, _, rfl, .inl (sq_same ha s2), _, _, rfl, rfl, _, rfl, ?_⟩
      by_cases h0 : ns = []
      · refine if_neg_of (by rw [h0]; simp) ⟨p, as ++ [0], rfl, s2, pH, by rw [upd_same, List.map_append]; rfl, by simp, by rw [List.length_append, g1, eml]; simp; omega⟩
      · have hp0 : 0 < ns.length := List.length_pos_iff.mpr h0
        refine if_pos_of (by rw [List.length_map]; simp; omega) ?_
        refine ⟨_, rfl, ?_⟩
        refine ⟨1, rfl, -1, rfl, p, _, rfl, SqL.of upd_same, fun l hl => ?_⟩
        obtain ⟨qs, q0, q1⟩ := cutV_ints (as ++ [0]) none (some (-1))
        have q2 : qs.length = as.length := by
          have h1 : HT.sIx (as ++ [0]).length (as ++ [0]).length (some (-1)) = as.length := by
            unfold HT.sIx
            simp only []
            rw [if_pos (by decide), List.length_append]
            simp
            omega
          rw [q1, h1]
          rfl
        have q0' : cutV (as.map V.int ++ [V.int 0]) none (some (-1)) = qs.map V.int := by rw [← q0, List.map_append]; rfl
        rw [q0']
        exact ⟨l, qs, rfl, same_to s2 hl, s2.free hl, upd_same, by omega, by omega⟩
    rintro σ3 H3 ⟨r, rs, rfl, s3, rH, hr, r1, r2⟩
    refine ⟨_, rfl, r, rfl, ⟨_, SqL.of hr⟩, fun X hX => ?_⟩
    have rX : r ≠ X := ne_of_none hr hX
    have XH : H X = none := s3.free hX
    refine lc_list (K := K) (a := r) (xs := rs.map V.int) (fun i H' => Same H H' ∧ H' r = some (.lst (rs.map V.int)) ∧ ∃ xs : List Int, xs.length = i ∧ H' X = some (.lst (xs.map V.int))) ⟨same_to s3 hX, same_upd hX _ _ hr, [], rfl, upd_same⟩ (fun i H' _ ⟨_, h, _⟩ => SqL.of h) ?_ ?_
    · rintro i v H' hv ⟨s4, hr4, xs, g1, g2⟩
      rw [List.getElem?_map] at hv
      obtain ⟨y, hy, rfl⟩ := Option.map_eq_some_iff.mp hv
      have hil : i < rs.length := (List.getElem?_eq_some_iff.mp hy).1
      refine ⟨rfl, ⟨_, rfl, _, _, rfl, rfl, .inr ⟨by decide, by decide⟩, _, _, rfl, rfl, .inl ⟨_, rfl, _, _, rfl, rfl, (by show (0 : Int) < 2147483647; decide), _, g2, smallLt (by rw [List.length_map]; omega), same_wr s4 XH, (by rw [upd_ne rX]; exact hr4), xs ++ [(y * 48271 + 11) % 2147483647], by rw [List.length_append, g1]; rfl, by rw [upd_same, List.map_append]; rfl⟩⟩⟩
    rintro H4 ⟨s4, hr4, xs, x1, hx4⟩
    rw [List.length_map] at x1
    refine ⟨Nat.zero_le _, fun nl hnl => ?_⟩
    have nlH : H nl = none := s4.free hnl
    have rn : r ≠ nl := ne_of_none hr4 hnl
    have Xn : X ≠ nl := ne_of_none hx4 hnl
    refine ⟨_, rfl, _, rfl, by omega, by omega, ?_⟩
    refine for_range (fun i σ H' => ∃ (v5 v6 v7 : Option V) (rs xs nn : List Int), σ = [some (.ref a), some (.int m), some (.ref r), some (.ref X), some (.ref nl), v5, v6, v7] ∧ Same H H' ∧ H' r = some (.lst (rs.map V.int)) ∧ H' X = some (.lst (xs.map V.int)) ∧ H' nl = some (.lst (nn.map V.int)) ∧ 1 ≤ rs.length ∧ xs.length = rs.length ∧ nn.length = i ∧ ∀ y ∈ nn, 0 ≤ y ∧ y < 65536)
      ⟨_, _, _, rs, xs, [], rfl, same_to s4 hnl, same_upd hnl _ _ hr4, same_upd hnl _ _ hx4, upd_same, r1, x1, rfl, fun y h => by cases h⟩ ?_ ?_
    · rintro k σ H5 hk ⟨v5, v6, v7, rs, xs, nn, rfl, s5, hr5, hx5, hn5, r1, x1, n1, hb⟩
      rw [Int.zero_add]
      have hkm : k < 1001 := by omega
      have m0 := Int.emod_nonneg (k : Int) (show ((rs.map V.int).length : Int) ≠ 0 by rw [List.length_map]; omega)
      have m1 := Int.emod_lt_of_pos (k : Int) (show (0 : Int) < ((rs.map V.int).length : Int) by rw [List.length_map]; omega)
      refine ⟨_, rfl, .inl ⟨_, rfl, _, rfl, r, _, rfl, .inl (SqL.of hr5), _, _, rfl, rfl, (by show (0 : Int) < ((rs.map V.int).length : Nat); rw [List.length_map]; omega), ?_⟩⟩
      rw [List.length_map] at m0 m1
      have hidx : (fun i j : Int => V.int (i % j)) (k : Int) ((rs.map V.int).length : Nat) = .int (((k : Int) % ((rs.length : Nat) : Int)).toNat : Nat) := by
        show V.int _ = V.int _
        rw [List.length_map]
        exact congrArg V.int (by omega)
      rw [hidx]
      obtain ⟨j, hj⟩ : ∃ j, ((k : Int) % ((rs.length : Nat) : Int)).toNat = j := ⟨_, rfl⟩
      rw [hj]
      have hjl : j < rs.length := by omega
      have hy : rs[j]? = some rs[j] := List.getElem?_eq_getElem hjl
      have hu : xs[j]? = some (xs[j]'(by omega)) := List.getElem?_eq_getElem _
      generalize rs[j] = y at hy
      generalize xs[j]'(by omega) = u at hu
      have aty : atI (rs.map V.int) (j : Int) = some (.int y) := atI_nat (by rw [List.getElem?_map, hy]; rfl)
      have atu : atI (xs.map V.int) (j : Int) = some (.int u) := atI_nat (by rw [List.getElem?_map, hu]; rfl)
      have ixr : ixN (rs.map V.int).length (j : Int) = some j := by
        rw [List.length_map]; unfold ixN; rw [if_pos (by omega), if_pos (by omega), Int.toNat_natCast]
      have ixx : ixN (xs.map V.int).length (j : Int) = some j := by
        rw [List.length_map]; unfold ixN; rw [if_pos (by omega), if_pos (by omega), Int.toNat_natCast]
      refine ⟨_, rfl, _, rfl, r, _, _, _, rfl, rfl, SqL.of hr5, aty, _, _, rfl, rfl, ⟨by decide, by decide, by decide⟩, _, _, rfl, rfl, _, rfl, ?_⟩
      have rH5 : H5 r ≠ none := by rw [hr5]; exact fun z => nomatch z
      by_cases big : (10 : Int) ^ (18 : Int).toNat ≤ y
      · refine if_pos_of (decide_eq_true big) ?_
        refine ⟨_, rfl, .inl ⟨rfl, _, SqL.of hn5⟩, _, rfl, _, rfl, r, _, _, _, rfl, rfl, SqL.of hr5, aty, .inl ⟨_, rfl, _, _, rfl, rfl, (by show (0 : Int) < 65536; decide), nl, _, _, rfl, rfl, hn5, smallLt (by rw [List.length_map]; omega), ?_⟩⟩
        have hr6 : upd H5 nl (.lst (nn.map V.int ++ [V.int (y % 65536)])) r = some (.lst (rs.map V.int)) := by rw [upd_ne rn]; exact hr5
        refine ⟨_, rfl, _, rfl, r, _, _, _, rfl, rfl, SqL.of hr6, aty, _, _, rfl, rfl, ⟨by decide, by decide⟩, _, rfl, _, rfl, r, _, _, _, rfl, rfl, hr6, ixr, ?_⟩
        refine ⟨_, _, _, rs.set j (y / 65536), xs, nn ++ [y % 65536], rfl, same_wr (same_wr s5 nlH) rH, by rw [upd_same, List.map_set], by rw [upd_ne (Ne.symm rX), upd_ne Xn]; exact hx5, by rw [upd_ne (Ne.symm rn), upd_same, List.map_append]; rfl, by rw [List.length_set]; exact r1, by rw [List.length_set]; exact x1, by rw [List.length_append, n1]; rfl, fun v hv => ?_⟩
        rcases List.mem_append.mp hv with hv | hv
        · exact hb v hv
        · have : v = y % 65536 := by simpa using hv
          omega
      · refine if_neg_of (fun q => big (of_decide_eq_true q)) ?_
        refine ⟨_, rfl, _, rfl, X, _, _, _, rfl, rfl, SqL.of hx5, atu, _, _, rfl, rfl, .inr ⟨by decide, by decide⟩, _, _, rfl, rfl, _, rfl, _, _, rfl, rfl, .inl ⟨by decide, by decide⟩, _, _, rfl, rfl, .inl ⟨_, rfl, _, _, rfl, rfl, (by show (0 : Int) < 2147483647; decide), _, rfl, _, rfl, X, _, _, _, rfl, rfl, hx5, ixx, ?_⟩⟩
        have atw : atI ((xs.map V.int).set j (.int ((u * 16807 + 12345 + 7919 * (k : Int)) % 2147483647))) (j : Int) = some (.int ((u * 16807 + 12345 + 7919 * (k : Int)) % 2147483647)) := atI_nat (by rw [List.getElem?_set_self (by rw [List.length_map]; omega)])
        have hr6 : upd H5 X (.lst ((xs.map V.int).set j (.int ((u * 16807 + 12345 + 7919 * (k : Int)) % 2147483647)))) r = some (.lst (rs.map V.int)) := by rw [upd_ne rX]; exact hr5
        have hn6 : upd H5 X (.lst ((xs.map V.int).set j (.int ((u * 16807 + 12345 + 7919 * (k : Int)) % 2147483647)))) nl = some (.lst (nn.map V.int)) := by rw [upd_ne (Ne.symm Xn)]; exact hn5
        refine ⟨_, rfl, .inl ⟨rfl, _, SqL.of hn6⟩, _, rfl, _, rfl, r, _, _, _, rfl, rfl, SqL.of hr6, aty, _, rfl, _, rfl, X, _, _, _, rfl, rfl, SqL.of upd_same, atw, _, _, rfl, rfl, ⟨by decide, by decide⟩, _, _, rfl, rfl, .inl ⟨_, rfl, _, _, rfl, rfl, (by show (0 : Int) < 65536; decide), nl, _, _, rfl, rfl, hn6, smallLt (by rw [List.length_map]; omega), ?_⟩⟩
        refine ⟨_, _, _, rs, xs.set j ((u * 16807 + 12345 + 7919 * (k : Int)) % 2147483647), nn ++ [(y + ((u * 16807 + 12345 + 7919 * (k : Int)) % 2147483647) / 5) % 65536], rfl, same_wr (same_wr s5 XH) nlH, by rw [upd_ne rn]; exact hr6, by rw [upd_ne Xn, upd_same, List.map_set], by rw [upd_same, List.map_append]; rfl, r1, by rw [List.length_set]; exact x1, by rw [List.length_append, n1]; rfl, fun v hv => ?_⟩
        rcases List.mem_append.mp hv with hv | hv
        · exact hb v hv
        · have : v = (y + ((u * 16807 + 12345 + 7919 * (k : Int)) % 2147483647) / 5) % 65536 := by simpa using hv
          omega
    · rintro σ H5 ⟨v5, v6, v7, rs, xs, nn, rfl, s5, hr5, hx5, hn5, r1, x1, n1, hb⟩
      exact ⟨_, rfl, hQ H5 nl nn s5 nlH hn5 n1 hb⟩
end
end Sfx
end
section
set_option Elab.async false
set_option linter.all false
set_option maxRecDepth 100000
set_option maxHeartbeats 4000000
/-! Lists of tuples as data. -/
namespace Sfx
open PySem PySem.Spec L2
def dV : V → PyData
  | .int i => .int i
  | .str s => .str s
  | .bl b => .bool b
  | _ => .none
/-- an int or a text -/
def iS : V → Bool
  | .int _ => true
  | .str s => PyData.strOk s
  | _ => false
def dRow (r : List V) : PyData := .tuple (r.map dV)
theorem eqv_dV {a b : V} (ha : iS a = true) (hb : iS b = true) : PyData.eqv (dV a) (dV b) = decide (a = b) := by
  cases a <;> cases b <;> first
    | (cases ha; done)
    | (cases hb; done)
    | skip
  · simp only [dV, PyData.eqv]
    rename_i i j
    by_cases h : i = j
    · subst h; simp
    · rw [decide_eq_false (fun e => h (V.int.inj e)), beq_eq_false_iff_ne.mpr h]
  · simp only [dV, PyData.eqv]
    rw [decide_eq_false (fun e => by cases e)]
  · simp only [dV, PyData.eqv]
    rw [decide_eq_false (fun e => by cases e)]
  · simp only [dV, PyData.eqv]
    rename_i i j
    by_cases h : i = j
    · subst h; simp
    · rw [decide_eq_false (fun e => h (V.str.inj e)), beq_eq_false_iff_ne.mpr h]
theorem eqv_all {α : Type} [DecidableEq α] {f : α → PyData} : ∀ {xs ys : List α}, (∀ a ∈ xs, ∀ b ∈ ys, PyData.eqv (f a) (f b) = decide (a = b)) → PyData.eqvAll (xs.map f) (ys.map f) = decide (xs = ys)
  | [], [], _ => by simp [PyData.eqvAll]
  | [], _ :: _, _ => by simp [PyData.eqvAll]
  | _ :: _, [], _ => by simp [PyData.eqvAll]
  | a :: xs, b :: ys, h => by
    rw [List.map_cons, List.map_cons]
    simp only [PyData.eqvAll]
    rw [h a List.mem_cons_self b List.mem_cons_self, eqv_all fun a ha b hb => h a (List.mem_cons_of_mem _ ha) b (List.mem_cons_of_mem _ hb)]
    by_cases e1 : a = b
    · by_cases e2 : xs = ys
      · simp [e1, e2]
      · simp [e2]
    · simp [e1]
/-- all items ints or texts -/
def simp1 (r : List V) : Prop := ∀ v ∈ r, iS v = true
theorem eqv_dRow {r q : List V} (hr : simp1 r) (hq : simp1 q) : PyData.eqv (dRow r) (dRow q) = decide (r = q) := by
  unfold dRow
  simp only [PyData.eqv]
  exact eqv_all fun a ha b hb => eqv_dV (hr a ha) (hq b hb)
theorem lay_all {α : Type} {f : α → PyData} : ∀ {xs : List α}, (∀ a ∈ xs, (f a).canLay0 = true) → PyData.canLayAll0 (xs.map f) = true
  | [], _ => by simp [PyData.canLayAll0]
  | a :: xs, h => by
    rw [List.map_cons]
    simp only [PyData.canLayAll0]
    rw [h a List.mem_cons_self, lay_all fun a ha => h a (List.mem_cons_of_mem _ ha)]
    rfl
theorem depth_all {α : Type} {f : α → PyData} {n : Nat} : ∀ {xs : List α}, (∀ a ∈ xs, (f a).depth ≤ n) → PyData.depthAll (xs.map f) ≤ n
  | [], _ => by simp [PyData.depthAll]
  | a :: xs, h => by
    have h1 := h a List.mem_cons_self
    have h2 := depth_all (xs := xs) fun a ha => h a (List.mem_cons_of_mem _ ha)
    rw [List.map_cons]
    simp only [PyData.depthAll]
    omega
/-- fit to be laid -/
def lV : V → Bool
  | .str s => PyData.strOk s
  | _ => true
theorem lV_iS {v : V} (h : iS v = true) : lV v = true := by
  cases v <;> first
    | rfl
    | exact h
theorem lay_dV {v : V} (h : lV v = true) : (dV v).canLay0 = true ∧ (dV v).depth ≤ 0 := by
  cases v <;> first
    | (simp [dV, PyData.canLay0, PyData.depth]; done)
    | (simp only [dV, PyData.canLay0, PyData.depth]; exact ⟨h, Nat.le_refl _⟩)
theorem lay_dRow {r : List V} (hr : simp1 r) : (dRow r).canLay0 = true ∧ (dRow r).depth ≤ 1 := by
  unfold dRow
  have h := depth_all (xs := r) (f := dV) (n := 0) fun v hv => (lay_dV (lV_iS (hr v hv))).2
  refine ⟨by simp only [PyData.canLay0]; exact lay_all fun v hv => (lay_dV (lV_iS (hr v hv))).1, ?_⟩
  simp only [PyData.depth]
  omega
theorem shaped_of {d : PyData} (h1 : d.canLay0 = true) (h2 : d.depth ≤ 64) : SeqAt.shaped d = true := by
  show (d.canLay0 && decide (d.depth ≤ 64)) = true
  rw [Bool.and_eq_true]
  exact ⟨h1, decide_eq_true h2⟩
theorem shaped_dRow {r : List V} (hr : simp1 r) : SeqAt.shaped (dRow r) = true := shaped_of (lay_dRow hr).1 (by have := (lay_dRow hr).2; omega)
theorem shaped_rows {rows : List (List V)} (hr : ∀ r ∈ rows, simp1 r) : SeqAt.shaped (.list (rows.map dRow)) = true := by
  have h := depth_all (xs := rows) (f := dRow) (n := 1) fun v hv => (lay_dRow (hr v hv)).2
  refine shaped_of (by simp only [PyData.canLay0]; exact lay_all fun v hv => (lay_dRow (hr v hv)).1) ?_
  simp only [PyData.depth]
  omega
theorem shaped_vs {vs : List V} (hv : ∀ v ∈ vs, lV v = true) : SeqAt.shaped (.list (vs.map dV)) = true := by
  have h := depth_all (xs := vs) (f := dV) (n := 0) fun v h => (lay_dV (hv v h)).2
  refine shaped_of (by simp only [PyData.canLay0]; exact lay_all fun v h => (lay_dV (hv v h)).1) ?_
  simp only [PyData.depth]
  omega
theorem dp_all {K : PySem.W.Frag} {H : Hp} : ∀ {r : List V}, (∀ v ∈ r, Dp K H v (dV v)) → DpAll K H r (r.map dV)
  | [], _ => .nil
  | v :: r, h => .cons (h v List.mem_cons_self) (dp_all fun v hv => h v (List.mem_cons_of_mem _ hv))
theorem dp_v {K : PySem.W.Frag} {H : Hp} {v : V} (h : iS v = true) : Dp K H v (dV v) := by
  cases v <;> first
    | exact .int _
    | exact .str _
    | (cases h; done)
theorem dp_row {K : PySem.W.Frag} {H : Hp} {p : Addr} {r : List V} (h : H p = some (.tup r)) (hr : simp1 r) : Dp K H (.ref p) (dRow r) := .tup (SqT.of h) (dp_all fun v hv => dp_v (hr v hv))
theorem dp_rows {K : PySem.W.Frag} {H : Hp} {a : Addr} {rows : List (List V)} (h : LT H a rows) (hr : ∀ r ∈ rows, simp1 r) : Dp K H (.ref a) (.list (rows.map dRow)) := by
  obtain ⟨qs, q1, q2⟩ := h
  refine .lst (SqL.of q1) ?_
  clear q1
  induction q2 with
  | nil => exact .nil
  | cons h _ ih => exact .cons (dp_row h (hr _ List.mem_cons_self)) (ih fun r m => hr r (List.mem_cons_of_mem _ m))
theorem dp_vals {K : PySem.W.Frag} {H : Hp} {a : Addr} {vs : List V} (h : H a = some (.lst vs)) (hv : ∀ v ∈ vs, Dp K H v (dV v)) : Dp K H (.ref a) (.list (vs.map dV)) := .lst (SqL.of h) (dp_all hv)
theorem eqv_rows {xs ys : List (List V)} (hx : ∀ r ∈ xs, simp1 r) (hy : ∀ r ∈ ys, simp1 r) : PyData.eqv (.list (xs.map dRow)) (.list (ys.map dRow)) = decide (xs = ys) := by
  simp only [PyData.eqv]
  exact eqv_all fun a ha b hb => eqv_dRow (hx a ha) (hy b hb)
theorem eqv_vals {xs ys : List V} (hx : ∀ v ∈ xs, iS v = true) (hy : ∀ v ∈ ys, iS v = true) : PyData.eqv (.list (xs.map dV)) (.list (ys.map dV)) = decide (xs = ys) := by
  simp only [PyData.eqv]
  exact eqv_all fun a ha b hb => eqv_dV (hx a ha) (hy b hb)
theorem any_rows {rows : List (List V)} {r : List V} (hx : ∀ q ∈ rows, simp1 q) (hr : simp1 r) : ((rows.map dRow).any fun z => PyData.eqv z (dRow r)) = decide (r ∈ rows) := by
  induction rows with
  | nil => simp
  | cons q rows ih =>
    rw [List.map_cons, List.any_cons, ih (fun x hx' => hx x (List.mem_cons_of_mem _ hx')), eqv_dRow (hx q List.mem_cons_self) hr]
    by_cases e : q = r
    · subst e; simp
    · have e' : ¬ r = q := fun z => e z.symm
      simp [e, e']
theorem ltr_ok {z : Str} (h : Ltr z) : PyData.strOk z = true := by
  unfold PyData.strOk
  rw [← Array.all_toList, List.all_eq_true]
  intro c hc
  rcases h c hc with e | e | e <;> rw [e] <;> decide
theorem simp_hrow {t : Int × Str} (h : Ltr t.2) : simp1 (hrow t) := fun v hv => by
  unfold hrow at hv
  simp at hv
  rcases hv with rfl | rfl
  · rfl
  · exact ltr_ok h
theorem simp_erow (t : Int × Nat) : simp1 (erow t) := fun v hv => by
  unfold erow at hv
  simp at hv
  rcases hv with rfl | rfl <;> rfl
theorem simp_irow {t : Str × Int × Str} (h : (t.1 = wPut ∨ t.1 = wTake) ∧ Ltr t.2.2) : simp1 (irow t) := fun v hv => by
  unfold irow at hv
  simp at hv
  rcases hv with rfl | rfl | rfl
  · rcases h.1 with e | e <;> rw [e] <;> decide +kernel
  · rfl
  · exact ltr_ok h.2
theorem simp_map {α : Type} {f : α → List V} {l : List α} (h : ∀ a ∈ l, simp1 (f a)) : ∀ r ∈ l.map f, simp1 r := fun r hr => by
  obtain ⟨a, ha, rfl⟩ := List.mem_map.mp hr
  exact h a ha
theorem hrow_inj {s t : Int × Str} (h : hrow s = hrow t) : s = t := by
  unfold hrow at h
  injection h with h1 h2
  injection h1 with h1
  injection h2 with h2 _
  injection h2 with h2
  exact Prod.ext h1 h2
theorem erow_inj {s t : Int × Nat} (h : erow s = erow t) : s = t := by
  unfold erow at h
  injection h with h1 h2
  injection h1 with h1
  injection h2 with h2 _
  injection h2 with h2
  exact Prod.ext h1 (Int.ofNat.inj h2)
theorem irow_inj {s t : Str × Int × Str} (h : irow s = irow t) : s = t := by
  unfold irow at h
  injection h with h1 h2
  injection h1 with h1
  injection h2 with h2 h3
  injection h2 with h2
  injection h3 with h3 _
  injection h3 with h3
  exact Prod.ext h1 (Prod.ext h2 h3)
theorem mem_hrow {t : Int × Str} {ts : List (Int × Str)} : hrow t ∈ ts.map hrow ↔ t ∈ ts := by
  rw [List.mem_map]
  exact ⟨fun ⟨s, hs, e⟩ => hrow_inj e ▸ hs, fun h => ⟨t, h, rfl⟩⟩
end Sfx
end
section
set_option Elab.async false
set_option linter.all false
set_option maxRecDepth 100000
set_option maxHeartbeats 4000000
namespace Sfx
open PySem PySem.Spec L2
def noted (ts ts' : List (Int × Str)) (hi : List (Str × Int × Str)) : List (Str × Int × Str) :=
  hi ++ (ts.filter fun t => !decide (t ∈ ts')).map (fun t => (wTake, t.1, t.2)) ++ (ts'.filter fun t => !decide (t ∈ ts)).map fun t => (wPut, t.1, t.2)
def LtrTs (ts : List (Int × Str)) : Prop := ∀ t ∈ ts, Ltr t.2
theorem cat_LT {H : Hp} {a b p : Addr} {xs ys : List (List V)} {l m : List V} (h : LT H a xs) (g : LT H b ys) (hl : H a = some (.lst l)) (hm : H b = some (.lst m)) (hp : H p = none) : LT (upd H p (.lst (l ++ m))) p (xs ++ ys) := by
  obtain ⟨qs, q1, q2⟩ := h
  obtain ⟨rs, r1, r2⟩ := g
  rw [q1] at hl
  rw [r1] at hm
  cases hl
  cases hm
  exact ⟨qs ++ rs, by rw [upd_same, List.map_append], paired_app (paired_imp (fun _ _ e => same_upd hp _ _ e) q2) (paired_imp (fun _ _ e => same_upd hp _ _ e) r2)⟩
section
variable {P : Program} {w : World} {K : PySem.W.Frag} {mg : Str → Option Value} {base : Heap} {ec : Nat → Addr} {CN CB CT CH : Addr}
abbrev s__law_noted : Stmt := topS 54
abbrev N__law_noted : List Str := ["_law_texts", "_law_after", "_law_history", "_law_gone", "_law_come", "_law_pair"]
theorem sc__law_noted : FnScope ["_law_texts", "_law_after", "_law_history", "_law_gone", "_law_come", "_law_pair"] ["_law_texts", "_law_after", "_law_history"] (defScope s__law_noted) := ⟨rfl, rfl, rfl, by decide +kernel, rfl, by decide +kernel, by decide +kernel⟩
def sp__law_noted : Sp := fun vs H Q _ => ∃ (a b c : Addr) (ts ts' : List (Int × Str)) (hi : List (Str × Int × Str)), vs = [.ref a, .ref b, .ref c] ∧ LT H a (ts.map hrow) ∧ LT H b (ts'.map hrow) ∧ LT H c (hi.map irow) ∧ LtrTs ts ∧ LtrTs ts' ∧ ts.length ≤ 1000 ∧ ts'.length ≤ 1000 ∧ hi.length ≤ 1000 ∧
  ∀ H' l, Same H H' → H l = none → LT H' l ((noted ts ts' hi).map irow) → Q (.ref l) H'
theorem ok__law_noted {f : Addr} {fd : FuncData} (F : Fun K "_law_noted" "_law_noted" s__law_noted f fd) (T : Txt mg) : FnOk P w K mg base CX0 1 f fd ["_law_texts", "_law_after", "_law_history"] sp__law_noted := by
  refine F.ok sc__law_noted (fun vs H Q E h => ?_) (fun cdv A outer s H vs Q E hr h => ?_)
  · obtain ⟨a, b, c, ts, ts', hi, rfl, _⟩ := h
    rfl
  · obtain ⟨a, b, c, ts, ts', hi, rfl, hA, hB, hC, lA, lB, nA, nB, nC, hQ⟩ := h
    have hu65 : (A.deeper (PyProof.Rows.envOfC "_law_noted" (defScope s__law_noted) s.heap.objs.size f cdv)).units + 65 < cLine := by
      have := hr.un
      omega
    refine ⟨_, (pss_cons (ps_setLc (i := 3) (own := [("_law_pair", 5)]) (g := (gName 5)) rfl sc__law_noted.nd rfl rfl (sw_true rfl rfl rfl (by decide +kernel)) (pi_list (pv 0)) (blkOk_by (own := [("_law_pair", 5)]) (N := N__law_noted) (sc := defScope s__law_noted) (by decide +kernel)) (fun _ _ _ _ _ => (pg_name (i := 5) sc__law_noted.nd rfl (Or.inl rfl))) (fun _ _ _ _ _ => (pts_one (pt_not (pt_cmpR (inD K hu65) (pv 5) (pv 1) (by rfl))))) (fun _ _ _ _ _ => (pe_tup (pa_cons pe_str (pa_cons (pe_ix (ixT K) (pv 5) pe_int (fun _ _ => rfl)) (pa_cons (pe_ix (ixT K) (pv 5) pe_int (fun _ _ => rfl)) pa_nil))))))
      (pss_cons (ps_setLc (i := 4) (own := [("_law_pair", 5)]) (g := (gName 5)) rfl sc__law_noted.nd rfl rfl (sw_true rfl rfl rfl (by decide +kernel)) (pi_list (pv 1)) (blkOk_by (own := [("_law_pair", 5)]) (N := N__law_noted) (sc := defScope s__law_noted) (by decide +kernel)) (fun _ _ _ _ _ => (pg_name (i := 5) sc__law_noted.nd rfl (Or.inl rfl))) (fun _ _ _ _ _ => (pts_one (pt_not (pt_cmpR (inD K hu65) (pv 5) (pv 0) (by rfl))))) (fun _ _ _ _ _ => (pe_tup (pa_cons pe_str (pa_cons (pe_ix (ixT K) (pv 5) pe_int (fun _ _ => rfl)) (pa_cons (pe_ix (ixT K) (pv 5) pe_int (fun _ _ => rfl)) pa_nil))))))
      (pss_one (ps_ret (pe_op op_cat (pe_op op_cat (pv 2) (pv 3)) (pv 4)))))), ?_⟩
    refine ⟨_, rfl, a, rfl, ⟨_, SqL.of hA.choose_spec.1⟩, fun D hD => ?_⟩
    have sel : ∀ (us os : List (Int × Str)) (lU : LtrTs us) (lO : LtrTs os) (n : Int) (y : Str), (n, y) ∈ us → ((((os.map hrow).map dRow).any fun z => PyData.eqv z (dRow (hrow (n, y))))) = decide ((n, y) ∈ os) := fun us os lU lO n y hm => by
      rw [any_rows (simp_map fun t ht => simp_hrow (lO t ht)) (simp_hrow (lU _ hm))]
      exact decide_eq_decide.mpr mem_hrow
    refine lc_LT (K := K) (H0 := H) hA (fun i H' => Same H H' ∧ LT H' D ((((ts.take i).filter fun t => !decide (t ∈ ts')).map fun t => (wTake, t.1, t.2)).map irow)) ⟨same_upd hD, LT.nil⟩ (fun i H' _ h => h.1) ?_ ?_
    · rintro i r p H' hi' hp ⟨s1, g1⟩
      rw [List.getElem?_map] at hi'
      obtain ⟨⟨n, y⟩, hny, rfl⟩ := Option.map_eq_some_iff.mp hi'
      have hm := List.mem_of_getElem? hny
      have ly : Ltr y := lA _ hm
      have hil : i < ts.length := (List.getElem?_eq_some_iff.mp hny).1
      refine ⟨rfl, ⟨_, rfl, _, rfl, dRow (hrow (n, y)), (ts'.map hrow).map dRow, dp_row hp (simp_hrow ly), dp_rows (hB.same s1) (simp_map fun t ht => simp_hrow (lB t ht)), shaped_dRow (simp_hrow ly), shaped_rows (simp_map fun t ht => simp_hrow (lB t ht)), ?_⟩⟩
      rw [sel ts ts' lA lB n y hm]
      refine ⟨_, rfl, ?_⟩
      by_cases q : (n, y) ∈ ts'
      · refine if_neg_of (by simp [q]) ⟨s1, ?_⟩
        rw [take_snoc hny, List.filter_append, List.filter_cons, if_neg (by simp [q]), List.filter_nil, List.append_nil]
        exact g1
      · refine if_pos_of (by simp [q]) ?_
        refine ⟨_, rfl, p, _, 0, _, rfl, rfl, SqT.of hp, rfl, _, rfl, p, _, 1, _, rfl, rfl, SqT.of hp, rfl, (by show 3 ≤ sizeLine; decide), fun t ht => ?_⟩
        obtain ⟨acc, a1, a2, a3⟩ := (g1.same (same_upd (o := .tup (irow (wTake, n, y))) ht)).app (p := t) (r := irow (wTake, n, y)) upd_same
        have hfl : ((ts.take i).filter fun t => !decide (t ∈ ts')).length ≤ i := Nat.le_trans (List.length_filter_le _ _) (by rw [List.length_take]; omega)
        refine ⟨acc, a1, smallLt (by rw [a2, List.length_map, List.length_map]; omega), same_wr (s1.trans (same_upd ht)) hD, ?_⟩
        rw [take_snoc hny, List.filter_append, List.filter_cons, if_pos (by simp [q]), List.filter_nil, List.map_append, List.map_append]
        exact a3
    rintro H1 ⟨s1, g1⟩
    rw [List.length_map, List.take_length] at g1
    refine ⟨_, rfl, b, rfl, ⟨_, SqL.of (s1 _ _ hB.choose_spec.1)⟩, fun D2 hD2 => ?_⟩
    refine lc_LT (K := K) (H0 := H1) (hB.same s1) (fun i H' => Same H1 H' ∧ LT H' D2 ((((ts'.take i).filter fun t => !decide (t ∈ ts)).map fun t => (wPut, t.1, t.2)).map irow)) ⟨same_upd hD2, LT.nil⟩ (fun i H' _ h => h.1) ?_ ?_
    · rintro i r p H' hi' hp ⟨s2, g2⟩
      rw [List.getElem?_map] at hi'
      obtain ⟨⟨n, y⟩, hny, rfl⟩ := Option.map_eq_some_iff.mp hi'
      have hm := List.mem_of_getElem? hny
      have ly : Ltr y := lB _ hm
      have hil : i < ts'.length := (List.getElem?_eq_some_iff.mp hny).1
      refine ⟨rfl, ⟨_, rfl, _, rfl, dRow (hrow (n, y)), (ts.map hrow).map dRow, dp_row hp (simp_hrow ly), dp_rows (hA.same (s1.trans s2)) (simp_map fun t ht => simp_hrow (lA t ht)), shaped_dRow (simp_hrow ly), shaped_rows (simp_map fun t ht => simp_hrow (lA t ht)), ?_⟩⟩
      rw [sel ts' ts lB lA n y hm]
      refine ⟨_, rfl, ?_⟩
      by_cases q : (n, y) ∈ ts
      · refine if_neg_of (by simp [q]) ⟨s2, ?_⟩
        rw [take_snoc hny, List.filter_append, List.filter_cons, if_neg (by simp [q]), List.filter_nil, List.append_nil]
        exact g2
      · refine if_pos_of (by simp [q]) ?_
        refine ⟨_, rfl, p, _, 0, _, rfl, rfl, SqT.of hp, rfl, _, rfl, p, _, 1, _, rfl, rfl, SqT.of hp, rfl, (by show 3 ≤ sizeLine; decide), fun t ht => ?_⟩
        obtain ⟨acc, a1, a2, a3⟩ := (g2.same (same_upd (o := .tup (irow (wPut, n, y))) ht)).app (p := t) (r := irow (wPut, n, y)) upd_same
        have hfl : ((ts'.take i).filter fun t => !decide (t ∈ ts)).length ≤ i := Nat.le_trans (List.length_filter_le _ _) (by rw [List.length_take]; omega)
        refine ⟨acc, a1, smallLt (by rw [a2, List.length_map, List.length_map]; omega), same_wr (s2.trans (same_upd ht)) hD2, ?_⟩
        rw [take_snoc hny, List.filter_append, List.filter_cons, if_pos (by simp [q]), List.filter_nil, List.map_append, List.map_append]
        exact a3
    rintro H2 ⟨s2, g2⟩
    rw [List.length_map, List.take_length] at g2
    have DH : H D = none := hD
    obtain ⟨xs, x0, _⟩ := id (hC.same (s1.trans s2))
    obtain ⟨ys, y0, _⟩ := id (g1.same s2)
    obtain ⟨zs, z0, _⟩ := id g2
    have xl : xs.length = hi.length := by
      obtain ⟨q, q1, q2⟩ := hC.same (s1.trans s2)
      rw [q1] at x0
      have := congrArg List.length (HO.lst.inj (Option.some.inj x0))
      rw [List.length_map, List.length_map, paired_len q2, List.length_map] at this
      exact this.symm
    have yl : ys.length ≤ ts.length := by
      obtain ⟨q, q1, q2⟩ := g1.same s2
      rw [q1] at y0
      have := congrArg List.length (HO.lst.inj (Option.some.inj y0))
      rw [List.length_map, List.length_map, paired_len q2, List.length_map, List.length_map] at this
      rw [← this]
      exact List.length_filter_le _ _
    have zl : zs.length ≤ ts'.length := by
      obtain ⟨q, q1, q2⟩ := g2
      rw [q1] at z0
      have := congrArg List.length (HO.lst.inj (Option.some.inj z0))
      rw [List.length_map, List.length_map, paired_len q2, List.length_map, List.length_map] at this
      rw [← this]
      exact List.length_filter_le _ _
    refine ⟨_, rfl, _, rfl, c, D, _, _, rfl, rfl, x0, y0, small (by rw [List.length_map, List.length_map]; omega), fun p hp => ?_⟩
    have s3 := s1.trans s2
    refine ⟨_, rfl, p, D2, _, _, rfl, rfl, upd_same, same_upd hp _ _ z0, small (by rw [List.length_append, List.length_map, List.length_map, List.length_map]; omega), fun p2 hp2 => ?_⟩
    have c1 := cat_LT (hC.same s3) (g1.same s2) x0 y0 hp
    have c2 := cat_LT c1 (g2.same (same_upd hp)) upd_same (same_upd hp _ _ z0) hp2
    refine hQ _ p2 (same_to (same_to s3 hp) hp2) (same_to s3 hp |>.free hp2) ?_
    unfold noted
    rw [List.map_append, List.map_append]
    exact c2
end
end Sfx
end
section
set_option Elab.async false
set_option linter.all false
set_option maxRecDepth 100000
set_option maxHeartbeats 4000000
namespace Sfx
open PySem PySem.Spec L2 PyProof.Rows
/-- what an own exception class says, for isinstance and fields -/
structure ExcF (K : PySem.W.Frag) (C : Addr) : Prop where
  xf : XfC K C
  hcl : (PySem.W.clsIn K C).isSome = true
  ha : PySem.W.findIn K (.ref C) "__class__" = some (some (.builtin "object.__class__"))
  hm : PySem.W.mroIn K C (.type "object") = some true
  at_ : PySem.W.findIn K (.ref C) "at" = some none
structure ExcG (K : PySem.W.Frag) : Prop where
  hn : PySem.W.specialIn K (.builtin "object.__class__") "__get__" = some (some (.builtin "getset_descriptor.__get__"))
  ht : PySem.W.takesIn K (.builtin "object.__class__") = some true
def rIsX (K : PySem.W.Frag) (a : Addr) (cls : Value) (d : Option Addr) : List V → Hp → VK → Prop := fun xs H Q => ∃ (C dd : Addr) (fs : List (Str × V)) (c : V) (cv : Value) (b : Bool), cls = .ref C ∧ d = some dd ∧ H dd = some (.xd fs) ∧ ExcF K C ∧ ExcG K ∧ xs = [.ref a, c] ∧ (∀ u, RelV c u → u = cv) ∧ PySem.W.kitOne K (.ref C) cv = some b ∧ Q (.bl b) H
theorem call_isX {X : Cx} {a : Addr} {cls : Value} {d : Option Addr} {oe : Obj} {pn : List (Addr × Obj)} (hz : L2N.Zn cls d oe) (hf : ∃ vs, oe.data = .fields vs) : CallR (X.suite a ((a, oe) :: pn)) (.builtin "isinstance") (rIsX X.K a cls d) := by
  intro pins s σ H xs us Q I r h
  obtain ⟨C, dd, fs, c, cv, b, rfl, rfl, hd, T, G, rfl, hcv, e, q⟩ := h
  cases r with
  | cons rx rr =>
    cases rr with
    | cons rt rr =>
      cases rr
      cases rx
      have ec := hcv _ rt
      subst ec
      obtain ⟨ha, _⟩ := I.pin (a, oe) (List.mem_append_left _ List.mem_cons_self)
      obtain ⟨vs, hv⟩ := hf
      have hx : ObjOk X.prog X.w H s.heap dd (.xd fs) := I.hok dd _ hd
      obtain ⟨mA, hns, hr⟩ := hx
      obtain ⟨od, ho, hl⟩ := lookIn_ns hns
      have J : PySem.W.InstAt s.heap a oe C (some od) := ⟨ha, hz.1, by unfold PySem.W.notCls; rw [hv] <;> rfl, by rw [hz.2.1]; exact ho⟩
      exact PySem.W.kia_one (PySem.W.kitx_exc T.hcl T.xf.ga T.xf.gg T.xf.exC T.ha G.hn G.ht T.hm) I.kIn J e (fun z => nomatch z) fun tk => ⟨.bl b, H, I.kept (t' := tk) fun _ _ z => z, rfl, q⟩
def tXfX (K : PySem.W.Frag) (a : Addr) (cls : Value) (d : Option Addr) (f : Str) (te : TE) : TE := fun σ H Q => te σ H fun x H1 => x = .ref a ∧ ∃ (C dd : Addr) (fs : List (Str × V)) (v : V), cls = .ref C ∧ XfC K C ∧ PySem.W.findIn K (.ref C) f = some none ∧ d = some dd ∧ H1 dd = some (.xd fs) ∧ fs.lookup f = some v ∧ Q v H1
theorem pe_xfX {X : Cx} {a : Addr} {oe : Obj} {cls : Value} {d : Option Addr} {pn : List (Addr × Obj)} {e : Expr} {te : TE} {pos : Pos} {n : Str} (hz : L2N.Zn cls d oe) (hf : ∃ vs, oe.data = .fields vs) (he : PE (X.suite a ((a, oe) :: pn)) e te) (hb : attributeBase e n X.env (eval e X.env) = eval e X.env := by rfl) :
    PE (X.suite a ((a, oe) :: pn)) (.Attribute e n pos) (tXfX X.K a cls d n te) := by
  refine ⟨fun pins s σ H Q I h => ?_⟩
  refine attr_of hb (thn (he.run pins s σ H _ I h) fun u s1 hh => ?_)
  obtain ⟨x, H1, I1, rx, ex, C, dd, fs, v, ec, T, hno, ed, ea, l, q⟩ := hh
  subst ex
  obtain rfl : u = Value.ref a := rx
  subst ec
  subst ed
  obtain ⟨ha, _⟩ := I1.pin (a, oe) (List.mem_append_left _ List.mem_cons_self)
  obtain ⟨vs, hd⟩ := hf
  have hx : ObjOk X.prog X.w H1 s1.heap dd (.xd fs) := I1.hok dd _ ea
  obtain ⟨mA, hns, hr⟩ := hx
  obtain ⟨od, ho, hl⟩ := lookIn_ns hns
  obtain ⟨u, hu, ru⟩ := RelO.some_of (v := v) (o := mA n) (by rw [← l]; exact hr n)
  have J : PySem.W.InstAt s1.heap a oe C (some od) := ⟨ha, hz.1, by unfold PySem.W.notCls; rw [hd] <;> rfl, by rw [hz.2.1]; exact ho⟩
  exact PySem.HandSPX.exc_get I1.kIn J T.ga T.gg T.exC (PySem.W.findObj_own T.hdC hno rfl (by rw [hl, hu])) (handed_of ru) ⟨v, H1, I1.tok _, ru, q⟩
theorem neD (K : PySem.W.Frag) {X : Cx} (hu : X.A.units + 64 < cLine) (h : X.K = K := by rfl) : OpR X (compareOp .NotEq) (rNeD K) := by subst h; exact op_neD hu
theorem eqD (K : PySem.W.Frag) {X : Cx} (hu : X.A.units + 64 < cLine) (h : X.K = K := by rfl) : OpR X (compareOp .Eq) (rEqD K) := by subst h; exact op_eqD hu
end Sfx
end
section
set_option Elab.async false
set_option linter.all false
set_option maxRecDepth 100000
set_option maxHeartbeats 4000000
/-! repr of a list of pairs. -/
namespace Sfx
open PySem PySem.Spec PyProof.Rows L2
/-- repr(x), x a list of data, where no repr is under way -/
def rReprD (K : PySem.W.Frag) : List V → Hp → VK → Prop := fun xs H Q => ∃ (a : Addr) (d : PyData), xs = [.ref a] ∧ Dp K H (.ref a) d ∧ d.showable = true ∧ d.hasDict = false ∧ d.depth ≤ 64 ∧ d.shown.length ≤ sizeLine ∧ Q (.str d.shown) H
theorem cr_reprD {X : Cx} (hg : X.A.guards = some []) (hu : X.A.units + 66 < cLine) : CallR X (.builtin "repr") (rReprD X.K) := by
  intro pins s σ H xs us Q I r h
  obtain ⟨a, d, rfl, hd, h1, h2, h3, h4, q⟩ := h
  obtain ⟨u, rfl, rx⟩ := vals1 r
  obtain ⟨as, rd⟩ := Dp.reads I d (.ref a) u hd rx
  obtain rfl : u = Value.ref a := rx
  refine repr_of_reads' rd h1 (fun z => by rw [h2] at z; cases z) hg (by omega) (fun _ _ e => e) (fun h' v tk hk => ?_) h4
  exact ⟨.str d.shown, H, I.kept (t' := tk) hk, ⟨v, rfl⟩, q⟩
def Dg (i : Int) : List Nat := (toString i : String).toList.map Char.toNat
theorem split_at {c : Nat} : ∀ {a b r s : List Nat}, c ∉ a → c ∉ b → a ++ c :: r = b ++ c :: s → a = b ∧ r = s
  | [], [], r, s, _, _, h => by simpa using h
  | [], y :: b, r, s, _, hb, h => by
    simp at h
    exact absurd (h.1 ▸ List.mem_cons_self) hb
  | x :: a, [], r, s, ha, _, h => by
    simp at h
    exact absurd (h.1 ▸ List.mem_cons_self) ha
  | x :: a, y :: b, r, s, ha, hb, h => by
    rw [List.cons_append, List.cons_append] at h
    injection h with h1 h2
    obtain ⟨e1, e2⟩ := split_at (fun z => ha (List.mem_cons_of_mem _ z)) (fun z => hb (List.mem_cons_of_mem _ z)) h2
    exact ⟨by rw [h1, e1], e2⟩
def dec (l : List Nat) : Nat := l.foldl (fun a c => 10 * a + (c - 48)) 0
theorem dg_dec : ∀ i : Fin 100, dec (Dg (i.val : Nat)) = i.val ∧ (Dg (i.val : Nat)).all (fun c => decide (48 ≤ c ∧ c ≤ 57)) = true := by decide +kernel
theorem dg_inj {i j : Int} (h1 : 0 ≤ i) (h2 : i < 100) (h3 : 0 ≤ j) (h4 : j < 100) (h : Dg i = Dg j) : i = j := by
  have a := (dg_dec ⟨i.toNat, by omega⟩).1
  have b := (dg_dec ⟨j.toNat, by omega⟩).1
  have ei : ((i.toNat : Nat) : Int) = i := by omega
  have ej : ((j.toNat : Nat) : Int) = j := by omega
  simp only [ei] at a
  simp only [ej] at b
  rw [h, b] at a
  omega
theorem dg_no {i : Int} (h1 : 0 ≤ i) (h2 : i < 100) {c : Nat} (hc : c < 48) : c ∉ Dg i := fun hm => by
  have a := (dg_dec ⟨i.toNat, by omega⟩).2
  have ei : ((i.toNat : Nat) : Int) = i := by omega
  simp only [ei] at a
  have := List.all_eq_true.mp a c hm
  simp at this
  omega
def pcs (x : Int × Nat) : List Nat := 40 :: (Dg x.1 ++ 44 :: 32 :: (Dg (x.2 : Nat) ++ [41]))
def tl : List (Int × Nat) → List Nat
  | [] => [93]
  | x :: r => 44 :: 32 :: (pcs x ++ tl r)
def enc : List (Int × Nat) → List Nat
  | [] => [91, 93]
  | x :: r => 91 :: (pcs x ++ tl r)
def okP (x : Int × Nat) : Prop := 0 ≤ x.1 ∧ x.1 < 100 ∧ x.2 < 100
theorem pcs_inj {x y : Int × Nat} {r s : List Nat} (hx : okP x) (hy : okP y) (h : pcs x ++ r = pcs y ++ s) : x = y ∧ r = s := by
  obtain ⟨a1, a2, a3⟩ := hx
  obtain ⟨b1, b2, b3⟩ := hy
  have h : Dg x.1 ++ 44 :: (32 :: (Dg (x.2 : Nat) ++ 41 :: r)) = Dg y.1 ++ 44 :: (32 :: (Dg (y.2 : Nat) ++ 41 :: s)) := by
    simpa [pcs] using h
  obtain ⟨e1, h⟩ := split_at (c := 44) (dg_no a1 a2 (by decide)) (dg_no b1 b2 (by decide)) h
  injection h with _ h
  obtain ⟨e2, h⟩ := split_at (c := 41) (dg_no (by omega) (by omega) (by decide)) (dg_no (by omega) (by omega) (by decide)) h
  refine ⟨Prod.ext (dg_inj a1 a2 b1 b2 e1) ?_, h⟩
  have := dg_inj (by omega) (by omega) (by omega) (by omega) e2
  omega
theorem tl_inj : ∀ {l m : List (Int × Nat)}, (∀ x ∈ l, okP x) → (∀ x ∈ m, okP x) → tl l = tl m → l = m
  | [], [], _, _, _ => rfl
  | [], _ :: _, _, _, h => by unfold tl at h; injection h with h _; exact absurd h (by decide)
  | _ :: _, [], _, _, h => by unfold tl at h; injection h with h _; exact absurd h (by decide)
  | x :: l, y :: m, hl, hm, h => by
    unfold tl at h
    injection h with _ h
    injection h with _ h
    obtain ⟨e, h⟩ := pcs_inj (hl x List.mem_cons_self) (hm y List.mem_cons_self) h
    rw [e, tl_inj (fun z hz => hl z (List.mem_cons_of_mem _ hz)) (fun z hz => hm z (List.mem_cons_of_mem _ hz)) h]
theorem enc_inj {l m : List (Int × Nat)} (hl : ∀ x ∈ l, okP x) (hm : ∀ x ∈ m, okP x) (h : enc l = enc m) : l = m := by
  cases l with
  | nil =>
    cases m with
    | nil => rfl
    | cons y m =>
      simp [enc, pcs] at h
  | cons x l =>
    cases m with
    | nil =>
      simp [enc, pcs] at h
    | cons y m =>
      unfold enc at h
      injection h with _ h
      obtain ⟨e, h⟩ := pcs_inj (hl x List.mem_cons_self) (hm y List.mem_cons_self) h
      rw [e, tl_inj (fun z hz => hl z (List.mem_cons_of_mem _ hz)) (fun z hz => hm z (List.mem_cons_of_mem _ hz)) h]
theorem app_cps (x y : Str) : (x ++ y).cps.toList = x.cps.toList ++ y.cps.toList := by
  show (x.cps ++ y.cps).toList = _
  simp
theorem ofS (s : String) : (Str.ofString s).cps.toList = s.toList.map Char.toNat := by
  rw [Str.ofString_eq_toList]
theorem shown_pair (x : Int × Nat) : (PyData.shown (dRow (erow x))).cps.toList = pcs x := by
  unfold dRow erow
  simp only [List.map_cons, List.map_nil, dV, PyData.shown, PyData.shownAll]
  unfold tupleText
  rw [app_cps, app_cps]
  simp only [Str.join, List.length_cons, List.length_nil]
  rw [app_cps, app_cps]
  have h1 : (Str.ofString "(").cps.toList = [40] := by decide +kernel
  have h2 : (Str.ofString ", ").cps.toList = [44, 32] := by decide +kernel
  have h3 : (Str.ofString (if (0 + 1 + 1 == 1) = true then ",)" else ")")).cps.toList = [41] := by decide +kernel
  rw [h1, h2, h3, ofS, ofS]
  show [40] ++ (Dg x.1 ++ [44, 32] ++ Dg (x.2 : Nat)) ++ [41] = pcs x
  simp [pcs]
theorem textFrom_list : ∀ (ts : List Str) (k : Nat) (acc : Str), (textFrom (k + 1) acc ts).cps.toList = acc.cps.toList ++ ts.flatMap fun t => 44 :: 32 :: t.cps.toList
  | [], k, acc => by
    show acc.cps.toList = _
    simp
  | t :: r, k, acc => by
    show (textFrom (k + 1 + 1) (acc ++ (if k + 1 > 0 then ", " else "" : String) ++ t) r).cps.toList = _
    have h2 : (Str.ofString (if k + 1 > 0 then ", " else "")).cps.toList = [44, 32] := by
      rw [if_pos (Nat.succ_pos k)]; decide +kernel
    rw [textFrom_list r (k + 1), app_cps, app_cps, h2, List.flatMap_cons]
    simp
theorem shown_all (l : List PyData) : PyData.shownAll l = l.map PyData.shown := by
  induction l with
  | nil => simp [PyData.shownAll]
  | cons a l ih => simp [PyData.shownAll, ih]
theorem tl_flat : ∀ l : List (Int × Nat), tl l = (l.flatMap fun x => 44 :: 32 :: pcs x) ++ [93]
  | [] => rfl
  | x :: r => by
    show 44 :: 32 :: (pcs x ++ tl r) = _
    rw [tl_flat r, List.flatMap_cons]
    simp
theorem shown_list (l : List (Int × Nat)) : (PyData.shown (.list ((l.map erow).map dRow))).cps.toList = enc l := by
  simp only [PyData.shown]
  rw [shown_all]
  unfold listText
  rw [app_cps]
  have h1 : (Str.ofString "[").cps.toList = [91] := by decide +kernel
  have h2 : (Str.ofString "]").cps.toList = [93] := by decide +kernel
  cases l with
  | nil =>
    show (Str.ofString "[").cps.toList ++ (Str.ofString "]").cps.toList = _
    rw [h1, h2]; rfl
  | cons x r =>
    show (textFrom 1 (Str.ofString "[" ++ Str.ofString "" ++ PyData.shown (dRow (erow x))) (((r.map erow).map dRow).map PyData.shown)).cps.toList ++ (Str.ofString "]").cps.toList = _
    have h3 : (Str.ofString "").cps.toList = [] := by decide +kernel
    rw [textFrom_list, app_cps, app_cps, h1, h2, h3, shown_pair]
    have e : (((r.map erow).map dRow).map PyData.shown).flatMap (fun t => 44 :: 32 :: t.cps.toList) = r.flatMap fun x => 44 :: 32 :: pcs x := by
      rw [List.map_map, List.map_map, List.flatMap_map]
      congr 1
      funext y
      show 44 :: 32 :: (PyData.shown (dRow (erow y))).cps.toList = _
      rw [shown_pair]
    rw [e]
    show _ = 91 :: (pcs x ++ tl r)
    rw [tl_flat]
    simp
/-- the key of a list of pairs -/
def repS (l : List (Int × Nat)) : Str := PyData.shown (.list ((l.map erow).map dRow))
theorem repS_inj {l m : List (Int × Nat)} (hl : ∀ x ∈ l, okP x) (hm : ∀ x ∈ m, okP x) (h : repS l = repS m) : l = m := by
  refine enc_inj hl hm ?_
  rw [← shown_list, ← shown_list]
  exact congrArg (fun s : Str => s.cps.toList) h
end Sfx
end
section
set_option Elab.async false
set_option linter.all false
set_option maxRecDepth 100000
set_option maxHeartbeats 4000000
namespace Sfx
open PySem PySem.Spec L2
structure TxtL (K : PySem.W.Frag) (mg : Str → Option Value) (ec : Nat → Addr) (cHE : Addr) : Prop extends Txt mg where
  cHouseError : mg "HouseError" = some (.ref cHE)
  cOutOfRange : mg "OutOfRange" = some (.ref (ec 0))
  cTakenNumber : mg "TakenNumber" = some (.ref (ec 1))
  cBadText : mg "BadText" = some (.ref (ec 2))
  cTooMany : mg "TooMany" = some (.ref (ec 3))
  cNoText : mg "NoText" = some (.ref (ec 4))
  cNoChange : mg "NoChange" = some (.ref (ec 5))
  f : ∀ i, i < 6 → ExcF K (ec i)
  g : ExcG K
  exm : ∀ i, i < 6 → PySem.W.exmOne K (.ref (ec i)) (.ref cHE) = some true
  kit : ∀ i j, i < 6 → j < 6 → PySem.W.kitOne K (.ref (ec i)) (.ref (ec j)) = some (decide (i = j))
theorem due_none {ts : List (Int × Str)} {n : Int} (h : txt ts n = none) : ts.filter (fun t => decide (t.1 = n)) = [] := by
  rw [List.filter_eq_nil_iff]
  intro t ht
  simpa using txt_none.mp h t ht
theorem due_some {ts : List (Int × Str)} {n : Int} {y : Str} (ha : Asc ts) (h : txt ts n = some y) : ts.filter (fun t => decide (t.1 = n)) = [(n, y)] := by
  induction ts with
  | nil => simp [txt] at h
  | cons t r ih =>
    obtain ⟨m, z⟩ := t
    obtain ⟨h1, h2⟩ := List.pairwise_cons.mp ha
    unfold txt at h
    by_cases e : m = n
    · rw [if_pos e] at h
      cases h
      subst e
      rw [List.filter_cons, if_pos (by simp), List.filter_eq_nil_iff.mpr]
      intro t ht
      have := h1 t ht
      simp
      omega
    · rw [if_neg e] at h
      rw [List.filter_cons, if_neg (by simp [e])]
      exact ih h2 h
section
variable {P : Program} {w : World} {K : PySem.W.Frag} {mg : Str → Option Value} {base : Heap} {ec : Nat → Addr} {CN CB CT CH cHE : Addr}
abbrev s__law_take : Stmt := topS 52
abbrev N__law_take : List Str := ["_law_house", "_law_texts", "_law_number_here", "_law_due", "_law_told", "error", "_law_pair"]
theorem sc__law_take : FnScope ["_law_house", "_law_texts", "_law_number_here", "_law_due", "_law_told", "error", "_law_pair"] ["_law_house", "_law_texts", "_law_number_here"] (defScope s__law_take) := ⟨rfl, rfl, rfl, by decide +kernel, rfl, by decide +kernel, by decide +kernel⟩
def sp__law_take (CH : Addr) : Sp := fun vs H Q _ => ∃ (z1 z2 p t : Addr) (d : HD) (ts : List (Int × Str)) (ol : List (Int × Nat)) (hi : List (Str × Int × Str)) (n : Int), vs = [.ref p, .ref t, .int n] ∧ HAt CH (dd H z1 z2) p d ts ol hi ∧ Std1 H z1 ∧ Std1 H z2 ∧ hi.length ≤ 1000 ∧ LT H t (ts.map hrow) ∧ t ≠ d.hl ∧
  (txt ts n = none → ∀ H', Same H H' → Q (.ref t) H') ∧
  (∀ y, txt ts n = some y → ∀ H' d' ol' l, HAt CH (dd H' z1 z2) p d' (ts.filter fun t => decide (t.1 ≠ n)) ol' (hi ++ [(wTake, n, y)]) → d'.hl = d.hl → Kp p d.hl H H' → H l = none → LT H' l ((ts.filter fun t => decide (t.1 ≠ n)).map hrow) → Q (.ref l) H')
theorem ok__law_take {f : Addr} {fd : FuncData} (F : Fun K "_law_take" "_law_take" s__law_take f fd) (T : TxtL K mg ec cHE) (TH : TxtH K CH) (h_House_take : HasM P w K mg base (L2N.CX P w) CH "take" 11 ["self", "number"] (sp_House_take CH ec)) :
    FnOk P w K mg base CX0 12 f fd ["_law_house", "_law_texts", "_law_number_here"] (sp__law_take CH) := by
  refine F.ok sc__law_take (fun vs H Q E h => ?_) (fun cdv A outer s H vs Q E hr h => ?_)
  · obtain ⟨z1, z2, p, t, d, ts, ol, hi, n, rfl, _⟩ := h
    rfl
  · obtain ⟨z1, z2, p, t, d, ts, ol, hi, n, rfl, hA, s1, s2, hil, hL, tne, hN, hY⟩ := h
    have hu64 : (A.deeper (PyProof.Rows.envOfC "_law_take" (defScope s__law_take) s.heap.objs.size f cdv)).units + 64 < cLine := by
      have := hr.un
      omega
    refine ⟨_, (pss_cons (ps_setLc (i := 3) (own := [("_law_pair", 6)]) (g := (gName 6)) rfl sc__law_take.nd rfl rfl (sw_true rfl rfl rfl (by decide +kernel)) (pi_list (pv 1)) (blkOk_by (own := [("_law_pair", 6)]) (N := N__law_take) (sc := defScope s__law_take) (by decide +kernel)) (fun _ _ _ _ _ => (pg_name (i := 6) sc__law_take.nd rfl (Or.inl rfl))) (fun _ _ _ _ _ => (pts_one (pt_cmpR op_eq (pe_ix (ixT K) (pv 6) pe_int (fun _ _ => rfl)) (pv 2) (nomark _)))) (fun _ _ _ _ _ => (pe_ix (ixT K) (pv 6) pe_int (fun _ _ => rfl))))
      (pss_cons (L2N.ps_try_as (i := 5) rfl rfl sc__law_take.nd rfl rfl ⟨rfl, by decide, .inl T.cHouseError⟩ takesN (fun W pn xe tk _ =>
      (pss_one (ps_set (i := 4) sc__law_take.nd rfl (Or.inl rfl) (pe_methG (pv 0) h_House_take (hr.mono (by decide)) (fun σ => L2N.passAt tk σ) (pa_cons (pv 2) pa_nil)))))
      (fun a oe cls d pn hz hf =>
      (pss_cons (ps_if (PW.pt (pw_or (pt_cmpR op_gt (pe_callB (lenQ K) (by rfl) T.len (by decide +kernel) (pa_cons (pv 3) pa_nil)) pe_int (nomark _)) (pw_or (pt_not (pt_val (pe_callB (call_isX hz hf) (by rfl) T.isinstance (by decide +kernel) (pa_cons (pv 5) (pa_cons (pe_glob (v := .ref (ec 4)) (by rfl) T.cNoText rfl) pa_nil))))) (pw_or1 (pt_cmpR op_ne (pe_xfX hz hf (pv 5)) (pv 2) (nomark _))))))
      (pss_one (ps_ret pe_non))
      pss_nil)
      (pss_one (ps_ret (pv 1))))))
      (pss_cons (ps_if (pt_cmpR (neD K (by exact hu64)) (pe_lst (pa_cons (pv 4) pa_nil)) (pv 3) (nomark _))
      (pss_one (ps_ret pe_non))
      pss_nil)
      (pss_one (ps_ret (pe_lc (own := [("_law_pair", 6)]) (g := (gName 6)) rfl sc__law_take.nd (pi_list (pv 1)) (blkOk_by (own := [("_law_pair", 6)]) (N := N__law_take) (sc := defScope s__law_take) (by decide +kernel)) (fun _ _ _ _ _ => (pg_name (i := 6) sc__law_take.nd rfl (Or.inl rfl))) (fun _ _ _ _ _ => (pts_one (pt_cmpR op_ne (pe_ix (ixT K) (pv 6) pe_int (fun _ _ => rfl)) (pv 2) (nomark _)))) (fun _ _ _ _ _ => (pv 6)))))))), ?_⟩
    have hB := hA.same dd_to
    have hG := hA.good
    have hp := hB.obj
    have hn8 := hG.most
    refine ⟨_, rfl, t, rfl, ⟨_, SqL.of hL.choose_spec.1⟩, fun D hD => ?_⟩
    refine lc_LT (K := K) (H0 := H) hL (fun i H' => Same H H' ∧ H' D = some (.lst (((ts.take i).filter fun t => decide (t.1 = n)).map fun t => V.str t.2))) ⟨same_upd hD, upd_same⟩ (fun i H' _ h => h.1) ?_ ?_
    · rintro i r q H' hi' hq ⟨t1, g1⟩
      rw [List.getElem?_map] at hi'
      obtain ⟨⟨m, y⟩, hny, rfl⟩ := Option.map_eq_some_iff.mp hi'
      have hil : i < ts.length := (List.getElem?_eq_some_iff.mp hny).1
      refine ⟨rfl, ⟨_, rfl, q, _, 0, _, rfl, rfl, SqT.of hq, rfl, _, rfl, rfl, _, rfl, ?_⟩⟩
      by_cases e : m = n
      · refine if_pos_of (by simp [e]) ?_
        have hfl : ((ts.take i).filter fun t => decide (t.1 = n)).length ≤ i := Nat.le_trans (List.length_filter_le _ _) (by rw [List.length_take]; omega)
        refine ⟨_, rfl, q, _, 1, _, rfl, rfl, SqT.of hq, rfl, _, g1, smallLt (by rw [List.length_map]; omega), same_wr t1 hD, ?_⟩
        rw [upd_same, take_snoc hny, List.filter_append, List.filter_cons, if_pos (by simp [e]), List.filter_nil, List.map_append]
        rfl
      · refine if_neg_of (by simp [e]) ⟨t1, ?_⟩
        rw [take_snoc hny, List.filter_append, List.filter_cons, if_neg (by simp [e]), List.filter_nil, List.append_nil]
        exact g1
    rintro H1 ⟨t1, g1⟩
    rw [List.length_map, List.take_length] at g1
    have hA1 := hA.same (dd_mono (z1 := z1) (z2 := z2) t1)
    have st1 : ∀ {y}, Std1 H y → Std1 H1 y := fun ⟨u, a, b⟩ => ⟨u, t1 _ _ a, b⟩
    refine ⟨_, rfl, p, d.dx, _, rfl, t1 _ _ hp, rfl, _, rfl, z1, z2, p, d, ts, ol, hi, n, rfl, hA1, st1 s1, st1 s2, hil, fun hn dd1 H2 t2 hdd hx => ?_, fun y hy H2 d' ol' hA2 edl kp => ?_⟩
    · rw [due_none hn] at g1
      refine ⟨true, T.exm 4 (by decide), fun _ a ha => ?_, fun z => by cases z⟩
      have t02 := t1.trans t2
      refine ⟨_, rfl, D, _, rfl, .inl (SqL.of (t2 _ _ g1)), _, _, rfl, rfl, _, rfl, if_neg_of (by simp) ?_⟩
      refine ⟨_, rfl, ec 4, dd1, _, .ref (ec 4), .ref (ec 4), true, rfl, rfl, hx, T.f 4 (by decide), T.g, rfl, fun u h => h, T.kit 4 4 (by decide) (by decide), true, rfl, if_neg_of (by simp) ?_⟩
      refine ⟨_, rfl, rfl, ec 4, dd1, _, _, rfl, (T.f 4 (by decide)).xf, (T.f 4 (by decide)).at_, rfl, hx, rfl, _, rfl, rfl, _, rfl, if_neg_of (by simp) ?_⟩
      exact ⟨_, rfl, hN hn H2 t02⟩
    · rw [due_some hG.asc hy] at g1
      have Dp : D ≠ p := fun e => by rw [e, hp] at hD; cases hD
      have hhl : H d.hl ≠ none := by
        obtain ⟨q, q1, _⟩ := hB.hist
        rw [q1]; exact fun z => nomatch z
      have Dhl : D ≠ d.hl := fun e => hhl (e ▸ hD)
      have g2' := kp _ _ g1 Dp Dhl
      have ly : Ltr y := hG.ltr _ (txt_mem hy)
      have oky : ∀ v ∈ [V.str y], iS v = true := fun v hv => by
        have : v = .str y := by simpa using hv
        rw [this]; exact ltr_ok ly
      refine ⟨_, rfl, (by show 1 ≤ sizeLine; decide), fun e he => ?_⟩
      have se : Same H2 (upd H2 e (.lst [.str y])) := same_upd he
      refine ⟨_, rfl, _, _, dp_vals (vs := [.str y]) upd_same (fun v hv => dp_v (oky v hv)), dp_vals (vs := [.str y]) (se _ _ g2') (fun v hv => dp_v (oky v hv)), shaped_vs (fun v hv => lV_iS (oky v hv)), shaped_vs (fun v hv => lV_iS (oky v hv)), ?_⟩
      rw [eqv_vals oky oky]
      refine ⟨_, rfl, if_neg_of (by simp) ?_⟩
      -- the texts without n
      have tp : t ≠ p := fun e => by
        obtain ⟨q, q1, _⟩ := hL
        rw [e, hp] at q1; cases q1
      have stp : Std1 H1 p := ⟨_, t1 _ _ hp, fun r z => by cases z⟩
      have sth : Std1 H1 d.hl := by
        obtain ⟨q, q1, _⟩ := hB.hist
        exact ⟨_, t1 _ _ q1, fun r z => by cases z⟩
      have hL2 : LT (upd H2 e (.lst [.str y])) t (ts.map hrow) := (lt_keep (hL.same t1) kp stp.no sth.no tp tne).same se
      have hA3 := hA2.same (dd_mono (z1 := z1) (z2 := z2) se)
      have kp3 : Kp p d.hl H (upd H2 e (.lst [.str y])) := ((Kp.of t1).trans kp).trans (Kp.of se)
      refine ⟨_, rfl, t, rfl, ⟨_, SqL.of hL2.choose_spec.1⟩, fun R hR => ?_⟩
      refine lc_LT (K := K) (H0 := upd H2 e (.lst [.str y])) hL2 (fun i H' => Same (upd H2 e (.lst [.str y])) H' ∧ LT H' R (((ts.take i).filter fun t => decide (t.1 ≠ n)).map hrow)) ⟨same_upd hR, LT.nil⟩ (fun i H' _ h => h.1) ?_ ?_
      · rintro i r q H' hi' hq ⟨t3, g3⟩
        rw [List.getElem?_map] at hi'
        obtain ⟨⟨m, u⟩, hmu, rfl⟩ := Option.map_eq_some_iff.mp hi'
        have hil : i < ts.length := (List.getElem?_eq_some_iff.mp hmu).1
        refine ⟨rfl, ⟨_, rfl, q, _, 0, _, rfl, rfl, SqT.of hq, rfl, _, rfl, rfl, _, rfl, ?_⟩⟩
        by_cases e : m = n
        · refine if_neg_of (by simp [e]) ⟨t3, ?_⟩
          rw [take_snoc hmu, List.filter_append, List.filter_cons, if_neg (by simp [e]), List.filter_nil, List.append_nil]
          exact g3
        · refine if_pos_of (by simp [e]) ?_
          obtain ⟨acc, a1, a2, a3⟩ := g3.app hq
          have hfl : ((ts.take i).filter fun t => decide (t.1 ≠ n)).length ≤ i := Nat.le_trans (List.length_filter_le _ _) (by rw [List.length_take]; omega)
          refine ⟨_, rfl, acc, a1, smallLt (by rw [a2, List.length_map]; omega), same_wr t3 hR, ?_⟩
          rw [take_snoc hmu, List.filter_append, List.filter_cons, if_pos (by simp [e]), List.filter_nil, List.map_append]
          exact a3
      · rintro H' ⟨t3, g3⟩
        rw [List.length_map, List.take_length] at g3
        have RH : H R = none := by
          cases q : H R with
          | none => rfl
          | some o =>
            by_cases e1 : R = p
            · have := (dd_some hA3.obj).2.2
              rw [← e1, hR] at this; cases this
            · by_cases e2 : R = d.hl
              · obtain ⟨q3, q4, _⟩ := hA3.hist
                have := (dd_some q4).2.2
                rw [edl, ← e2, hR] at this; cases this
              · rw [kp3 _ _ q e1 e2] at hR; cases hR
        exact hY y hy H' d' ol' R (hA3.same (dd_mono t3)) edl (kp3.trans (Kp.of t3)) RH g3

abbrev s__law_back : Stmt := topS 53
abbrev N__law_back : List Str := ["_law_house", "_law_texts", "_law_history", "error", "_law_word", "_law_number_here", "_law_text_here", "_law_pair"]
theorem sc__law_back : FnScope ["_law_house", "_law_texts", "_law_history", "error", "_law_word", "_law_number_here", "_law_text_here", "_law_pair"] ["_law_house", "_law_texts", "_law_history"] (defScope s__law_back) := ⟨rfl, rfl, rfl, by decide +kernel, rfl, by decide +kernel, by decide +kernel⟩
def sp__law_back (CH : Addr) : Sp := fun vs H Q _ => ∃ (z1 z2 p t h : Addr) (d : HD) (ts : List (Int × Str)) (ol : List (Int × Nat)) (hi : List (Str × Int × Str)), vs = [.ref p, .ref t, .ref h] ∧ HAt CH (dd H z1 z2) p d ts ol hi ∧ Std1 H z1 ∧ Std1 H z2 ∧ hi.length ≤ 1000 ∧ LT H t (ts.map hrow) ∧ LT H h (hi.map irow) ∧ t ≠ d.hl ∧ h ≠ d.hl ∧
  (hi = [] → ∀ H', Same H H' → Q (.ref t) H') ∧
  (∀ n y, hi.getLast? = some (wPut, n, y) → ∀ H' d' ol' l, HAt CH (dd H' z1 z2) p d' (ts.filter fun t => decide (t.1 ≠ n)) ol' (hi ++ [(wTake, n, y)]) → d'.hl = d.hl → Kp p d.hl H H' → H l = none → LT H' l ((ts.filter fun t => decide (t.1 ≠ n)).map hrow) → Q (.ref l) H') ∧
  (∀ n y, hi.getLast? = some (wTake, n, y) → ∀ H' d' ol' l, HAt CH (dd H' z1 z2) p d' (insN ts n y) ol' (hi ++ [(wPut, n, y)]) → d'.hl = d.hl → Kp p d.hl H H' → H l = none → LT H' l ((insN ts n y).map hrow) → Q (.ref l) H')
theorem ok__law_back {f : Addr} {fd : FuncData} (F : Fun K "_law_back" "_law_back" s__law_back f fd) (T : TxtL K mg ec cHE) (TH : TxtH K CH) (h_House_back : HasM P w K mg base (L2N.CX P w) CH "back" 12 ["self"] (sp_House_back CH ec)) :
    FnOk P w K mg base CX0 13 f fd ["_law_house", "_law_texts", "_law_history"] (sp__law_back CH) := by
  refine F.ok sc__law_back (fun vs H Q E h => ?_) (fun cdv A outer s H vs Q E hr h => ?_)
  · obtain ⟨z1, z2, p, t, h, d, ts, ol, hi, rfl, _⟩ := h
    rfl
  · obtain ⟨z1, z2, p, t, h, d, ts, ol, hi, rfl, hA, s1, s2, hil, hL, hH, tne, hne, hN, hP, hT⟩ := h
    have hu64 : (A.deeper (PyProof.Rows.envOfC "_law_back" (defScope s__law_back) s.heap.objs.size f cdv)).units + 64 < cLine := by
      have := hr.un
      omega
    refine ⟨_, (pss_cons (L2N.ps_try_as (i := 3) rfl rfl sc__law_back.nd rfl rfl ⟨rfl, by decide, .inl T.cHouseError⟩ takesN (fun W pn xe tk _ =>
      (pss_one (ps_expr (pe_methG0 (pv 0) h_House_back (hr.mono (by decide)) (fun σ => L2N.passAt tk σ)))))
      (fun a oe cls d pn hz hf =>
      (pss_cons (ps_if (PW.pt (pw_or (pt_cmpR op_gt (pe_callB (lenQ K) (by rfl) T.len (by decide +kernel) (pa_cons (pv 2) pa_nil)) pe_int (nomark _)) (pw_or (pt_not (pt_val (pe_callB (call_isX hz hf) (by rfl) T.isinstance (by decide +kernel) (pa_cons (pv 3) (pa_cons (pe_glob (v := .ref (ec 5)) (by rfl) T.cNoChange rfl) pa_nil))))) (pw_or1 (pt_cmpR op_ne (pe_xfX hz hf (pv 3)) pe_int (nomark _))))))
      (pss_one (ps_ret pe_non))
      pss_nil)
      (pss_one (ps_ret (pv 1))))))
      (pss_cons (ps_if (pt_cmpR op_eq (pe_callB (lenQ K) (by rfl) T.len (by decide +kernel) (pa_cons (pv 2) pa_nil)) pe_int (nomark _))
      (pss_one (ps_ret pe_non))
      pss_nil)
      (pss_cons (ps_asg (pe_ix (ixL K) (pv 2) (pe_un un_neg pe_int) (fun _ _ => rfl)) (pg_tup rfl (pgs_cons (pg_name (i := 4) sc__law_back.nd rfl (Or.inl rfl)) (pgs_cons (pg_name (i := 5) sc__law_back.nd rfl (Or.inr rfl)) (pgs_cons (pg_name (i := 6) sc__law_back.nd rfl (Or.inl rfl)) pgs_nil)))))
      (pss_cons (ps_if (pt_cmpR op_eq (pv 4) pe_str (nomark _))
      (pss_one (ps_ret (pe_lc (own := [("_law_pair", 7)]) (g := (gName 7)) rfl sc__law_back.nd (pi_list (pv 1)) (blkOk_by (own := [("_law_pair", 7)]) (N := N__law_back) (sc := defScope s__law_back) (by decide +kernel)) (fun _ _ _ _ _ => (pg_name (i := 7) sc__law_back.nd rfl (Or.inl rfl))) (fun _ _ _ _ _ => (pts_one (pt_cmpR op_ne (pe_ix (ixT K) (pv 7) pe_int (fun _ _ => rfl)) (pv 5) (nomark _)))) (fun _ _ _ _ _ => (pv 7)))))
      pss_nil)
      (pss_one (ps_ret (pe_callB cr_sortedM (by rfl) T.sorted (by decide +kernel) (pa_cons (pe_op op_cat (pv 1) (pe_lst (pa_cons (pe_tup (pa_cons (pv 5) (pa_cons (pv 6) pa_nil))) pa_nil))) pa_nil)))))))), ?_⟩
    have hB := hA.same dd_to
    have hG := hA.good
    have hp := hB.obj
    have hn8 := hG.most
    have tp : t ≠ p := fun e => by
      obtain ⟨q, q1, _⟩ := hL
      rw [e, hp] at q1; cases q1
    have hpp : h ≠ p := fun e => by
      obtain ⟨q, q1, _⟩ := hH
      rw [e, hp] at q1; cases q1
    have stp : Std1 H p := ⟨_, hp, fun r z => by cases z⟩
    have sth : Std1 H d.hl := by
      obtain ⟨q, q1, _⟩ := hB.hist
      exact ⟨_, q1, fun r z => by cases z⟩
    have free : ∀ {H2 : Hp} {d' : HD} {ts' : List (Int × Str)} {ol' : List (Int × Nat)} {hi' : List (Str × Int × Str)} {R : Addr}, HAt CH (dd H2 z1 z2) p d' ts' ol' hi' → d'.hl = d.hl → Kp p d.hl H H2 → H2 R = none → H R = none := fun {H2 d' ts' ol' hi' R} hA3 edl kp3 hR => by
      cases q : H R with
      | none => rfl
      | some o =>
        by_cases e1 : R = p
        · have := (dd_some hA3.obj).2.2
          rw [← e1, hR] at this; cases this
        · by_cases e2 : R = d.hl
          · obtain ⟨q3, q4, _⟩ := hA3.hist
            have := (dd_some q4).2.2
            rw [edl, ← e2, hR] at this; cases this
          · rw [kp3 _ _ q e1 e2] at hR; cases hR
    obtain ⟨qs, hh0, hpr0⟩ := id hH
    have hql : qs.length = hi.length := by have := paired_len hpr0; rw [List.length_map] at this; exact this
    -- behind the try
    refine ⟨_, rfl, p, d.dx, _, rfl, hp, rfl, z1, z2, p, d, ts, ol, hi, rfl, hA, s1, s2, hil, fun h0 dd1 H2 t2 hdd hx => ?_, fun n y hlast H2 d' ol' hA2 edl kp => ?_, fun n y hlast H2 d' ol' hA2 edl kp => ?_⟩
    · refine ⟨true, T.exm 5 (by decide), fun _ a ha => ?_, fun z => by cases z⟩
      refine ⟨_, rfl, h, _, rfl, .inl (SqL.of (t2 _ _ hh0)), _, _, rfl, rfl, _, rfl, if_neg_of (by rw [List.length_map, hql, h0]; simp) ?_⟩
      refine ⟨_, rfl, ec 5, dd1, _, .ref (ec 5), .ref (ec 5), true, rfl, rfl, hx, T.f 5 (by decide), T.g, rfl, fun u h => h, T.kit 5 5 (by decide) (by decide), true, rfl, if_neg_of (by simp) ?_⟩
      refine ⟨_, rfl, rfl, ec 5, dd1, _, _, rfl, (T.f 5 (by decide)).xf, (T.f 5 (by decide)).at_, rfl, hx, rfl, rfl, _, rfl, if_neg_of (by simp) ?_⟩
      exact ⟨_, rfl, hN h0 H2 t2⟩
    · have hH2 := lt_keep hH kp stp.no sth.no hpp hne
      have hL2 := lt_keep hL kp stp.no sth.no tp tne
      obtain ⟨qs2, hh2, hpr2⟩ := id hH2
      have hql2 : qs2.length = hi.length := by have := paired_len hpr2; rw [List.length_map] at this; exact this
      have h0 : hi ≠ [] := fun e => by rw [e] at hlast; cases hlast
      have hlen : 0 < hi.length := List.length_pos_iff.mpr h0
      have hge : hi[hi.length - 1]? = some (wPut, n, y) := by rw [← List.getLast?_eq_getElem?]; exact hlast
      obtain ⟨tt, ht1, ht2⟩ := paired_get hpr2 (i := hi.length - 1) (by rw [List.getElem?_map, hge]; rfl)
      have hat : atI (qs2.map V.ref) (-1) = some (.ref tt) := atI_neg1 (by rw [List.length_map, hql2, List.getElem?_map, ht1]; rfl)
      refine ⟨_, rfl, h, _, rfl, .inl (SqL.of hh2), rfl, _, rfl, if_neg_of (by rw [List.length_map, hql2]; simp [h0]) ?_⟩
      refine ⟨_, rfl, _, rfl, h, _, -1, _, rfl, rfl, SqL.of hh2, hat, g3 ht2 ?_⟩
      refine ⟨_, rfl, rfl, _, rfl, if_pos_of (by simp [wPut]) ?_⟩
      refine ⟨_, rfl, t, rfl, ⟨_, SqL.of hL2.choose_spec.1⟩, fun R hR => ?_⟩
      refine lc_LT (K := K) (H0 := H2) hL2 (fun i H' => Same H2 H' ∧ LT H' R (((ts.take i).filter fun t => decide (t.1 ≠ n)).map hrow)) ⟨same_upd hR, LT.nil⟩ (fun i H' _ h => h.1) ?_ ?_
      · rintro i r q H' hi' hq ⟨t3, g3⟩
        rw [List.getElem?_map] at hi'
        obtain ⟨⟨m, u⟩, hmu, rfl⟩ := Option.map_eq_some_iff.mp hi'
        have hil : i < ts.length := (List.getElem?_eq_some_iff.mp hmu).1
        refine ⟨rfl, ⟨_, rfl, q, _, 0, _, rfl, rfl, SqT.of hq, rfl, _, rfl, rfl, _, rfl, ?_⟩⟩
        by_cases e : m = n
        · refine if_neg_of (by simp [e]) ⟨t3, ?_⟩
          rw [take_snoc hmu, List.filter_append, List.filter_cons, if_neg (by simp [e]), List.filter_nil, List.append_nil]
          exact g3
        · refine if_pos_of (by simp [e]) ?_
          obtain ⟨acc, a1, a2, a3⟩ := g3.app hq
          have hfl : ((ts.take i).filter fun t => decide (t.1 ≠ n)).length ≤ i := Nat.le_trans (List.length_filter_le _ _) (by rw [List.length_take]; omega)
          refine ⟨_, rfl, acc, a1, smallLt (by rw [a2, List.length_map]; omega), same_wr t3 hR, ?_⟩
          rw [take_snoc hmu, List.filter_append, List.filter_cons, if_pos (by simp [e]), List.filter_nil, List.map_append]
          exact a3
      · rintro H' ⟨t3, g3⟩
        rw [List.length_map, List.take_length] at g3
        exact hP n y hlast H' d' ol' R (hA2.same (dd_mono t3)) edl (kp.trans (Kp.of t3)) (free hA2 edl kp hR) g3
    · have hH2 := lt_keep hH kp stp.no sth.no hpp hne
      have hL2 := lt_keep hL kp stp.no sth.no tp tne
      obtain ⟨qs2, hh2, hpr2⟩ := id hH2
      have hql2 : qs2.length = hi.length := by have := paired_len hpr2; rw [List.length_map] at this; exact this
      have h0 : hi ≠ [] := fun e => by rw [e] at hlast; cases hlast
      have hlen : 0 < hi.length := List.length_pos_iff.mpr h0
      have hge : hi[hi.length - 1]? = some (wTake, n, y) := by rw [← List.getLast?_eq_getElem?]; exact hlast
      obtain ⟨tt, ht1, ht2⟩ := paired_get hpr2 (i := hi.length - 1) (by rw [List.getElem?_map, hge]; rfl)
      have hat : atI (qs2.map V.ref) (-1) = some (.ref tt) := atI_neg1 (by rw [List.length_map, hql2, List.getElem?_map, ht1]; rfl)
      refine ⟨_, rfl, h, _, rfl, .inl (SqL.of hh2), rfl, _, rfl, if_neg_of (by rw [List.length_map, hql2]; simp [h0]) ?_⟩
      refine ⟨_, rfl, _, rfl, h, _, -1, _, rfl, rfl, SqL.of hh2, hat, g3 ht2 ?_⟩
      have pk : PutOk ts n y := by
        rcases hA.last _ _ _ hlast with ⟨e, _⟩ | ⟨_, q, _⟩
        · exact absurd e (by decide)
        · exact q
      refine ⟨_, rfl, rfl, _, rfl, if_neg_of (by simp [wTake]; decide) ?_⟩
      refine ⟨_, rfl, _, rfl, _, rfl, (by show 2 ≤ sizeLine; decide), fun t2 ht2' => ?_⟩
      refine ⟨(by show 1 ≤ sizeLine; decide), fun e he => ?_⟩
      have sx : Same H2 (upd (upd H2 t2 (.tup [.int n, .str y])) e (.lst [.ref t2])) := same_to (same_upd ht2') he
      have te : t2 ≠ e := ne_of_none upd_same he
      obtain ⟨ql, hl0, hlp⟩ := id (hL2.same sx)
      have hqln : ql.length = ts.length := by have := paired_len hlp; rw [List.length_map] at this; exact this
      refine ⟨t, e, _, _, rfl, rfl, hl0, upd_same, small (by rw [List.length_map]; simp; omega), fun p' hp' => ?_⟩
      have c1 : LT _ p' (ts.map hrow ++ [hrow (n, y)]) := cat_LT (hL2.same sx) (ys := [hrow (n, y)]) ⟨[t2], upd_same, .cons (by rw [upd_ne te, upd_same]; rfl) .nil⟩ hl0 upd_same hp'
      refine ⟨p', _, [false, true], rfl, c1, by simp, fun r hr => ?_, fun qs' rows' q' hperm hpair hsort hq' => ?_⟩
      · rcases List.mem_append.mp hr with hr | hr
        · obtain ⟨x, _, rfl⟩ := List.mem_map.mp hr
          rfl
        · have : r = hrow (n, y) := by simpa using hr
          rw [this]; rfl
      · have er := sorted_insN hG.asc pk.no (by rw [List.map_append]; exact hperm) hsort
        subst er
        have sy := same_to sx hp' (o := .lst (ql.map V.ref ++ [V.ref t2]))
        have sz := same_to sy hq' (o := .lst (qs'.map V.ref))
        exact hT n y hlast _ d' ol' q' (hA2.same (dd_mono sz)) edl (kp.trans (Kp.of sz)) (free hA2 edl kp (sy.free hq')) ⟨qs', upd_same, paired_imp (fun _ _ e => same_upd hq' _ _ e) hpair⟩
end
end Sfx
end
section
set_option Elab.async false
set_option linter.all false
set_option maxRecDepth 100000
set_option maxHeartbeats 4000000
namespace Sfx
open PySem PySem.Spec L2
theorem ltr_cut {z : Str} (h : Ltr z) (i j : Nat) : Ltr (toS ((z.cps.toList.take j).drop i)) ∧ strLen (toS ((z.cps.toList.take j).drop i)) ≤ strLen z := by
  constructor
  · intro c hc
    rw [toS_list] at hc
    exact h c (List.mem_of_mem_take (List.mem_of_mem_drop hc))
  · unfold strLen
    rw [toS_list, List.length_drop, List.length_take]
    omega
section
variable {P : Program} {w : World} {K : PySem.W.Frag} {mg : Str → Option Value} {base : Heap} {ec : Nat → Addr} {CN CB CT CH cHE : Addr}
abbrev s__law_words : Stmt := topS 48
abbrev N__law_words : List Str := ["_law_texts", "_law_numbers_here", "_law_at", "_law_words_here", "_law_k", "_law_drawn", "_law_text_here", "_law_start", "_law_word"]
theorem sc__law_words : FnScope ["_law_texts", "_law_numbers_here", "_law_at", "_law_words_here", "_law_k", "_law_drawn", "_law_text_here", "_law_start", "_law_word"] ["_law_texts", "_law_numbers_here", "_law_at"] (defScope s__law_words) := ⟨rfl, rfl, rfl, by decide +kernel, rfl, by decide +kernel, by decide +kernel⟩
def sp__law_words : Sp := fun vs H Q _ => ∃ (a nl : Addr) (ts : List (Int × Str)) (xs : List Int) (k0 : Nat), vs = [.ref a, .ref nl, .int (k0 : Nat)] ∧ LT H a (ts.map hrow) ∧ LtrTs ts ∧ (∀ t ∈ ts, strLen t.2 ≤ 40) ∧ ts.length ≤ 8 ∧ H nl = some (.lst (xs.map V.int)) ∧ k0 + 5 ≤ xs.length ∧
  ∀ H' l (ws : List Str), Same H H' → H l = none → H' l = some (.lst (ws.map V.str)) → (∀ z ∈ ws, Ltr z ∧ strLen z ≤ 100) → ws.length ≤ 8 → Q (.ref l) H'
theorem ok__law_words {f : Addr} {fd : FuncData} (F : Fun K "_law_words" "_law_words" s__law_words f fd) (T : Txt mg) (h__law_text : HasF P w K mg base CX0 "_law_text" 1 ["_law_drawn", "_law_more", "_law_most"] sp__law_text) : FnOk P w K mg base CX0 2 f fd ["_law_texts", "_law_numbers_here", "_law_at"] sp__law_words := by
  refine F.ok sc__law_words (fun vs H Q E h => ?_) (fun cdv A outer s H vs Q E hr h => ?_)
  · obtain ⟨a, nl, ts, xs, k0, rfl, _⟩ := h
    rfl
  · obtain ⟨a, nl, ts, xs, k0, rfl, hL, lt, tl, h8, hn, hk0, hQ⟩ := h
    refine ⟨_, (pss_cons (ps_set (i := 3) sc__law_words.nd rfl (Or.inl rfl) (pe_lst pa_nil))
      (pss_cons (ps_for PassesOwn.never rfl (pi_range1 rfl T.range (pa_cons pe_int pa_nil)) (pg_name (i := 4) sc__law_words.nd rfl (Or.inl rfl))
      (pss_cons (ps_set (i := 5) sc__law_words.nd rfl (Or.inl rfl) (pe_ix (ixL K) (pv 1) (pe_op op_add (pv 2) (pv 4)) (fun _ _ => rfl)))
      (pss_one (ps_if (PW.pt (pw_or (pt_cmpR op_eq (pe_op op_mod (pe_callTy call_int1 (by rfl) T.int (by decide +kernel) (pa_cons (pv 4) pa_nil)) pe_int) pe_int (nomark _)) (pw_or1 (pt_cmpR op_eq (pe_callB (lenQ K) (by rfl) T.len (by decide +kernel) (pa_cons (pv 0) pa_nil)) pe_int (nomark _)))))
      (pss_one (ps_expr (pe_bm PySem.F.plainAttrs_list PySem.F.slot_list_append PySem.F.type_list_append mt_append (pv 3) (pa_cons (pe_callG h__law_text (hr.mono (by decide)) p0 (pa_cons (pv 5) (pa_cons (pe_ix (ixL K) (pv 1) (pe_op op_add (pe_op op_add (pv 2) (pv 4)) pe_int) (fun _ _ => rfl)) (pa_cons pe_int pa_nil)))) pa_nil))))
      (pss_cons (ps_set (i := 6) sc__law_words.nd rfl (Or.inl rfl) (pe_ix (ixT K) (pe_ix (ixL K) (pv 0) (pe_op op_mod (pe_callTy call_int1 (by rfl) T.int (by decide +kernel) (pa_cons (pv 5) pa_nil)) (pe_callB (lenQ K) (by rfl) T.len (by decide +kernel) (pa_cons (pv 0) pa_nil))) (fun _ _ => rfl)) pe_int (fun _ _ => rfl)))
      (pss_cons (ps_set (i := 7) sc__law_words.nd rfl (Or.inl rfl) (pe_op op_mod (pe_callTy call_int1 (by rfl) T.int (by decide +kernel) (pa_cons (pe_op op_fdiv (pv 5) pe_int) pa_nil)) (pe_op op_add (pe_callB call_len_str (by rfl) T.len (by decide +kernel) (pa_cons (pv 6) pa_nil)) pe_int)))
      (pss_cons (ps_set (i := 8) sc__law_words.nd rfl (Or.inl rfl) (pe_slice sl_str (pv 6) (po_some (pv 7)) (po_some (pe_op op_add (pv 7) (pe_op op_mod (pe_callTy call_int1 (by rfl) T.int (by decide +kernel) (pa_cons (pe_op op_fdiv (pv 5) pe_int) pa_nil)) pe_int)))))
      (pss_cons (ps_expr (pe_bm PySem.F.plainAttrs_list PySem.F.slot_list_append PySem.F.type_list_append mt_append (pv 3) (pa_cons (pv 8) pa_nil)))
      (pss_one (ps_expr (pe_bm PySem.F.plainAttrs_list PySem.F.slot_list_append PySem.F.type_list_append mt_append (pv 3) (pa_cons (pe_op op_add_str (pv 8) (pe_ix ix_str pe_str (pe_op op_mod (pe_callTy call_int1 (by rfl) T.int (by decide +kernel) (pa_cons (pv 5) pa_nil)) pe_int) (fun _ _ => rfl))) pa_nil))))))))))))
      (pss_one (ps_ret (pv 3))))), ?_⟩
    refine ⟨Nat.zero_le _, fun D hD => ⟨_, rfl, by decide, by decide, ?_⟩⟩
    have at_ : ∀ {i : Nat}, i < xs.length → ∃ y, atI (xs.map V.int) ((i : Nat) : Int) = some (.int y) := fun {i} h => ⟨_, atI_nat (by rw [List.getElem?_map, List.getElem?_eq_getElem h]; rfl)⟩
    refine for_range (fun i σ H' => ∃ (v4 v5 v6 v7 v8 : Option V) (ws : List Str), σ = [some (.ref a), some (.ref nl), some (.int (k0 : Nat)), some (.ref D), v4, v5, v6, v7, v8] ∧ Same H H' ∧ H' D = some (.lst (ws.map V.str)) ∧ (∀ z ∈ ws, Ltr z ∧ strLen z ≤ 100) ∧ ws.length ≤ 2 * i)
      ⟨none, none, none, none, none, [], rfl, same_upd hD, upd_same, fun z h => (by cases h), Nat.le_refl _⟩ ?_ ?_
    · rintro k σ H1 hk ⟨v4, v5, v6, v7, v8, ws, rfl, s1, g1, hw, hl⟩
      have hk : k < 4 := hk
      rw [Int.zero_add]
      obtain ⟨dr, hdr⟩ := at_ (i := k0 + k) (by omega)
      obtain ⟨mo, hmo⟩ := at_ (i := k0 + k + 1) (by omega)
      have nn := s1 _ _ hn
      refine ⟨_, rfl, _, rfl, _, rfl, _, _, rfl, rfl, nl, _, _, _, rfl, rfl, SqL.of nn, (by rw [← Int.natCast_add]; exact hdr), ?_⟩
      have more : ∀ {σ : St} {H2 : Hp} (z : Str) (zs : List Str), True := fun _ _ => trivial
      obtain ⟨qs, hx, hpr⟩ := hL.same s1
      have hql : qs.length = ts.length := by have := paired_len hpr; rw [List.length_map] at this; exact this
      have take1 : [some (V.ref a), some (.ref nl), some (.int (k0 : Nat)), some (.ref D), some (.int (k : Nat)), some (.int dr), v6, v7, v8].length = 9 := rfl
      refine ⟨_, rfl, .inl ⟨_, rfl, _, _, rfl, rfl, (by show (0 : Int) < 2; decide), rfl, _, rfl, ?_⟩⟩
      have txtCase : ∀ H2, Same H H2 → H2 = H1 → True := fun _ _ _ => trivial
      by_cases c1 : ((k : Nat) : Int) % 2 = 0
      · refine if_pos_of (by simp [c1]) (if_pos_of rfl ?_)
        refine ⟨_, rfl, .inl ⟨rfl, _, SqL.of g1⟩, _, rfl, _, rfl, _, rfl, _, rfl, _, _, rfl, rfl, _, _, rfl, rfl, nl, _, _, _, rfl, rfl, SqL.of nn, (by rw [← Int.natCast_add, ← Int.natCast_one, ← Int.natCast_add]; exact hmo), _, _, _, rfl, by decide, by decide, fun z hz hzl => ?_⟩
        refine ⟨D, _, _, rfl, rfl, g1, smallLt (by rw [List.length_map]; omega), ?_⟩
        refine ⟨_, _, _, _, _, ws ++ [z], rfl, same_wr s1 hD, by rw [upd_same, List.map_append]; rfl, fun y hy => ?_, by rw [List.length_append]; show ws.length + 1 ≤ _; omega⟩
        rcases List.mem_append.mp hy with hy | hy
        · exact hw y hy
        · have : y = z := by simpa using hy
          subst this
          exact ⟨hz, by omega⟩
      refine if_neg_of (by simp [c1]) ?_
      refine ⟨_, rfl, a, _, rfl, .inl (SqL.of hx), rfl, _, rfl, ?_⟩
      by_cases c2 : ts = []
      · refine if_pos_of (by rw [List.length_map, hql, c2]; rfl) ?_
        refine ⟨_, rfl, .inl ⟨rfl, _, SqL.of g1⟩, _, rfl, _, rfl, _, rfl, _, rfl, _, _, rfl, rfl, _, _, rfl, rfl, nl, _, _, _, rfl, rfl, SqL.of nn, (by rw [← Int.natCast_add, ← Int.natCast_one, ← Int.natCast_add]; exact hmo), _, _, _, rfl, by decide, by decide, fun z hz hzl => ?_⟩
        refine ⟨D, _, _, rfl, rfl, g1, smallLt (by rw [List.length_map]; omega), ?_⟩
        refine ⟨_, _, _, _, _, ws ++ [z], rfl, same_wr s1 hD, by rw [upd_same, List.map_append]; rfl, fun y hy => ?_, by rw [List.length_append]; show ws.length + 1 ≤ _; omega⟩
        rcases List.mem_append.mp hy with hy | hy
        · exact hw y hy
        · have : y = z := by simpa using hy
          subst this
          exact ⟨hz, by omega⟩
      have hp : 0 < ts.length := List.length_pos_iff.mpr c2
      refine if_neg_of (by rw [List.length_map, hql]; simp [c2]) ?_
      -- a stretch of a text
      have m0 := Int.emod_nonneg dr (show ((qs.map V.ref).length : Int) ≠ 0 by rw [List.length_map]; omega)
      have m1 := Int.emod_lt_of_pos dr (show (0 : Int) < ((qs.map V.ref).length : Int) by rw [List.length_map]; omega)
      rw [List.length_map] at m0 m1
      obtain ⟨i, hi⟩ : ∃ i : Nat, dr % ((qs.length : Nat) : Int) = (i : Int) := ⟨(dr % ((qs.length : Nat) : Int)).toNat, by omega⟩
      have hil : i < qs.length := by omega
      have hq : qs[i]? = some qs[i] := List.getElem?_eq_getElem hil
      obtain ⟨r, r1, r2⟩ := paired_get1 hpr hq
      rw [List.getElem?_map] at r1
      obtain ⟨⟨n, y⟩, hny, rfl⟩ := Option.map_eq_some_iff.mp r1
      have ym := List.mem_of_getElem? hny
      have yl : strLen y ≤ 40 := tl _ ym
      have ly : Ltr y := lt _ ym
      have hyl : y.length = strLen y := rfl
      refine ⟨_, rfl, _, rfl, .inl ⟨_, rfl, _, rfl, a, _, rfl, .inl (SqL.of hx), _, _, rfl, rfl, (by show (0 : Int) < ((qs.map V.ref).length : Nat); rw [List.length_map]; omega), a, _, _, _, rfl, rfl, SqL.of hx, atI_ref (i := i) (by rw [List.length_map]; exact hi) hq, _, _, 1, _, rfl, rfl, SqT.of r2, rfl, ?_⟩⟩
      refine ⟨_, rfl, _, _, rfl, rfl, ⟨by decide, by decide⟩, .inl ⟨_, rfl, _, rfl, y, rfl, small (by omega), _, _, rfl, rfl, _, _, rfl, rfl, (by show (0 : Int) < (y.length : Nat) + 1; omega), ?_⟩⟩
      have s0 := Int.emod_nonneg (dr / 8) (show ((y.length : Nat) : Int) + 1 ≠ 0 by omega)
      have s9 := Int.emod_lt_of_pos (dr / 8) (show (0 : Int) < ((y.length : Nat) : Int) + 1 by omega)
      obtain ⟨lo, hlo⟩ : ∃ i : Nat, (dr / 8) % (((y.length : Nat) : Int) + 1) = (i : Int) := ⟨((dr / 8) % (((y.length : Nat) : Int) + 1)).toNat, by omega⟩
      have w0 := Int.emod_nonneg (dr / 400) (show (40 : Int) ≠ 0 by decide)
      obtain ⟨wd, hwd⟩ : ∃ i : Nat, (dr / 400) % 40 = (i : Int) := ⟨((dr / 400) % 40).toNat, by omega⟩
      refine ⟨_, rfl, _, rfl, _, rfl, _, rfl, _, rfl, _, _, rfl, rfl, ⟨by decide, by decide⟩, .inl ⟨_, rfl, _, _, rfl, rfl, (by show (0 : Int) < 40; decide), _, _, rfl, rfl, _, rfl, y, rfl, small (by omega), ?_⟩⟩
      dsimp only
      rw [hlo, hwd, ← Int.natCast_add, cutS_nat]
      obtain ⟨lw, lwl⟩ := ltr_cut ly lo (lo + wd)
      generalize toS ((y.cps.toList.take (lo + wd)).drop lo) = wrd at lw lwl
      refine ⟨_, rfl, .inl ⟨rfl, _, SqL.of g1⟩, _, rfl, D, _, _, rfl, rfl, g1, smallLt (by rw [List.length_map]; omega), ?_⟩
      have r0 := Int.emod_nonneg dr (show (3 : Int) ≠ 0 by decide)
      have r3 := Int.emod_lt_of_pos dr (show (0 : Int) < 3 by decide)
      obtain ⟨c, hc, hc3⟩ := abz_at _ r0 r3
      refine ⟨_, rfl, .inl ⟨rfl, _, SqL.of upd_same⟩, _, rfl, _, rfl, .inl ⟨_, rfl, _, _, rfl, rfl, (by show (0 : Int) < 3; decide), "abz", _, c, rfl, rfl, small (by decide), hc, _, _, rfl, rfl, small (by show strLen wrd + 1 ≤ 100000; omega), ?_⟩⟩
      refine ⟨D, _, _, rfl, rfl, upd_same, smallLt (by rw [List.length_append, List.length_map]; show ws.length + 1 ≤ _; omega), ?_⟩
      refine ⟨_, _, _, _, _, ws ++ [wrd, wrd ++ sgn c], rfl, same_wr (same_wr s1 hD) hD, by rw [upd_same, List.map_append, List.append_assoc]; rfl, fun z hz => ?_, by rw [List.length_append]; show ws.length + 2 ≤ _; omega⟩
      rcases List.mem_append.mp hz with hz | hz
      · exact hw z hz
      · have : z = wrd ∨ z = wrd ++ sgn c := by simpa using hz
        rcases this with rfl | rfl
        · exact ⟨lw, by omega⟩
        · exact ⟨ltr_app lw hc3, by rw [len_app]; omega⟩
    · rintro σ H1 ⟨v4, v5, v6, v7, v8, ws, rfl, s1, g1, hw, hl⟩
      have hl : ws.length ≤ 2 * 4 := hl
      exact ⟨_, rfl, hQ H1 D ws s1 hD g1 hw (by omega)⟩
end
end Sfx
end
section
set_option Elab.async false
set_option linter.all false
set_option maxRecDepth 100000
set_option maxHeartbeats 4000000
namespace Sfx
open PySem PySem.Spec L2
theorem suf_drop {y z : Str} : z.cps.toList <:+ y.cps.toList ↔ sufS y (strLen y - strLen z) = z := by
  rw [List.suffix_iff_eq_drop]
  constructor
  · intro h
    have : toS z.cps.toList = toS (y.cps.toList.drop (strLen y - strLen z)) := congrArg toS h
    rw [toS_of] at this
    exact this.symm
  · intro h
    have := congrArg (fun s : Str => s.cps.toList) h
    exact this.symm
section
variable {P : Program} {w : World} {K : PySem.W.Frag} {mg : Str → Option Value} {base : Heap} {ec : Nat → Addr} {CN CB CT CH cHE : Addr}
abbrev s__law_answers : Stmt := topS 49
abbrev N__law_answers : List Str := ["_law_house", "_law_texts", "_law_numbers_here", "_law_at", "_law_edges_here", "_law_word", "_law_due", "_law_number_here", "_law_text_here"]
theorem sc__law_answers : FnScope ["_law_house", "_law_texts", "_law_numbers_here", "_law_at", "_law_edges_here", "_law_word", "_law_due", "_law_number_here", "_law_text_here"] ["_law_house", "_law_texts", "_law_numbers_here", "_law_at"] (defScope s__law_answers) := ⟨rfl, rfl, rfl, by decide +kernel, rfl, by decide +kernel, by decide +kernel⟩
def sp__law_answers (CH : Addr) : Sp := fun vs H Q _ => ∃ (G : Hp) (p t nl : Addr) (d : HD) (ts : List (Int × Str)) (ol : List (Int × Nat)) (hi : List (Str × Int × Str)) (xs : List Int) (k0 : Nat), vs = [.ref p, .ref t, .ref nl, .int (k0 : Nat)] ∧ HAt CH G p d ts ol hi ∧ Same G H ∧ LT H t (ts.map hrow) ∧ H nl = some (.lst (xs.map V.int)) ∧ k0 + 5 ≤ xs.length ∧
  ∀ H', Same H H' → Q (.bl true) H'
theorem ok__law_answers {f : Addr} {fd : FuncData} (F : Fun K "_law_answers" "_law_answers" s__law_answers f fd) (T : Txt mg) (TH : TxtH K CH) (h_House_machine : HasM P w K mg base CX0 CH "machine" 1 ["self"] (sp_House_machine CH)) (h_House_places : HasM P w K mg base CX0 CH "places" 2 ["self", "word"] (sp_House_places CH))
    (h_House_count : HasM P w K mg base CX0 CH "count" 3 ["self", "word"] (sp_House_count CH)) (h_takes : HasF P w K mg base CX0 "takes" 2 ["edges", "word", "mark"] sp_takes) (h__law_words : HasF P w K mg base CX0 "_law_words" 2 ["_law_texts", "_law_numbers_here", "_law_at"] sp__law_words)
    (h__law_places : HasF P w K mg base CX0 "_law_places" 1 ["_law_texts", "_law_word"] sp__law_places) :
    FnOk P w K mg base CX0 4 f fd ["_law_house", "_law_texts", "_law_numbers_here", "_law_at"] (sp__law_answers CH) := by
  refine F.ok sc__law_answers (fun vs H Q E h => ?_) (fun cdv A outer s H vs Q E hr h => ?_)
  · obtain ⟨G, p, t, nl, d, ts, ol, hi, xs, k0, rfl, _⟩ := h
    rfl
  · obtain ⟨G, p, t, nl, d, ts, ol, hi, xs, k0, rfl, hA, sG, hL, hn, hk, hQ⟩ := h
    have hu64 : (A.deeper (PyProof.Rows.envOfC "_law_answers" (defScope s__law_answers) s.heap.objs.size f cdv)).units + 64 < cLine := by
      have := hr.un
      omega
    refine ⟨_, (pss_cons (ps_set (i := 4) sc__law_answers.nd rfl (Or.inl rfl) (pe_methG0 (pv 0) h_House_machine (hr.mono (by decide)) p0))
      (pss_cons (ps_for PassesOwn.never rfl (pi_list (pe_callG h__law_words (hr.mono (by decide)) p0 (pa_cons (pv 1) (pa_cons (pv 2) (pa_cons (pv 3) pa_nil))))) (pg_name (i := 5) sc__law_answers.nd rfl (Or.inl rfl))
      (pss_cons (ps_set (i := 6) sc__law_answers.nd rfl (Or.inl rfl) (pe_callG h__law_places (hr.mono (by decide)) p0 (pa_cons (pv 1) (pa_cons (pv 5) pa_nil))))
      (pss_cons (ps_if (PW.pt (pw_or (pt_cmpR (neD K (by exact hu64)) (pe_methG (pv 0) h_House_places (hr.mono (by decide)) p0 (pa_cons (pv 5) pa_nil)) (pv 6) (nomark _)) (pw_or1 (pt_cmpR op_ne (pe_methG (pv 0) h_House_count (hr.mono (by decide)) p0 (pa_cons (pv 5) pa_nil)) (pe_callB (lenQ K) (by rfl) T.len (by decide +kernel) (pa_cons (pv 6) pa_nil)) (nomark _)))))
      (pss_one (ps_ret pe_bl))
      pss_nil)
      (pss_one (ps_for PassesOwn.never rfl (pi_list (pv 1)) (pg_tup rfl (pgs_cons (pg_name (i := 7) sc__law_answers.nd rfl (Or.inl rfl)) (pgs_cons (pg_name (i := 8) sc__law_answers.nd rfl (Or.inl rfl)) pgs_nil)))
      (pss_one (ps_if (pt_cmpR op_ne (pe_callG h_takes (hr.mono (by decide)) p0 (pa_cons (pv 4) (pa_cons (pv 5) (pa_cons (pv 7) pa_nil)))) (pe_cmpR op_eq (pe_slice sl_str (pv 8) (po_some (pe_callB (call_max2 rfl) (by rfl) T.max (by decide +kernel) (pa_cons pe_int (pa_cons (pe_op op_sub (pe_callB call_len_str (by rfl) T.len (by decide +kernel) (pa_cons (pv 8) pa_nil)) (pe_callB call_len_str (by rfl) T.len (by decide +kernel) (pa_cons (pv 5) pa_nil))) pa_nil)))) po_none) (pv 5) (nomark _)) (nomark _))
      (pss_one (ps_ret pe_bl))
      pss_nil)))))))
      (pss_one (ps_ret pe_bl)))), ?_⟩
    have hG := hA.good
    have hB := hA.same sG
    have hp := hB.obj
    refine ⟨_, rfl, p, d.dx, _, rfl, hp, rfl, G, p, d, ts, ol, hi, rfl, hA, sG, fun H1 l L s1 fl N M => ?_⟩
    have sG1 := sG.trans s1
    refine ⟨_, rfl, _, rfl, _, rfl, t, nl, ts, xs, k0, rfl, hL.same s1, hG.ltr, hG.len, hG.most, s1 _ _ hn, hk, fun H2 wl ws s2 fw hw hws hwl => ?_⟩
    have s12 := s1.trans s2
    refine ⟨wl, rfl, ⟨_, SqL.of hw⟩, ?_⟩
    refine for_list (K := K) (a := wl) (xs := ws.map V.str) (fun i σ H' => ∃ (v5 v6 v7 v8 : Option V), σ = [some (.ref p), some (.ref t), some (.ref nl), some (.int (k0 : Nat)), some (.ref l), v5, v6, v7, v8] ∧ Same H2 H') ⟨_, _, _, _, rfl, Same.refl _⟩ (fun i σ H' _ ⟨_, _, _, _, _, s⟩ => SqL.of (s _ _ hw)) ?_ ?_
    · rintro i v σ H3 hv ⟨v5, v6, v7, v8, rfl, s3⟩
      rw [List.getElem?_map] at hv
      obtain ⟨z, hz, rfl⟩ := Option.map_eq_some_iff.mp hv
      obtain ⟨lz, zl⟩ := hws z (List.mem_of_getElem? hz)
      have s13 := s12.trans s3
      refine ⟨_, rfl, _, rfl, t, ts, z, rfl, hL.same s13, by omega, fun t ht => Nat.le_trans (hG.len t ht) (by decide), hG.most, fun H4 l4 s4 f4 g4 => ?_⟩
      have s14 := s13.trans s4
      refine ⟨_, rfl, p, d.dx, _, rfl, s14 _ _ hp, rfl, _, rfl, G, p, d, ts, ol, hi, z, rfl, hA, sG.trans s14, by omega, fun H5 l5 s5 f5 g5 => ?_⟩
      have ser : ∀ r ∈ (plc ts z.cps.toList).map erow, simp1 r := simp_map fun e _ => simp_erow e
      refine ⟨_, rfl, _, _, dp_rows g5 ser, dp_rows (g4.same s5) ser, shaped_rows ser, shaped_rows ser, ?_⟩
      rw [eqv_rows ser ser]
      refine ⟨_, rfl, if_neg_of (by simp) ?_⟩
      have s15 := s14.trans s5
      refine ⟨_, rfl, p, d.dx, _, rfl, s15 _ _ hp, rfl, _, rfl, G, p, d, ts, ol, hi, z, rfl, hA, sG.trans s15, by omega, fun H6 s6 => ?_⟩
      obtain ⟨qx, hqx, hqxl⟩ := (g4.same (s5.trans s6)).ref
      rw [List.length_map] at hqxl
      refine ⟨_, rfl, l4, _, rfl, .inl (SqL.of hqx), rfl, _, rfl, if_neg_of (by rw [hqxl]; simp) ?_⟩
      have s16 := s15.trans s6
      refine ⟨_, rfl, t, rfl, ⟨_, SqL.of ((hL.same s16).choose_spec.1)⟩, ?_⟩
      refine for_LT (K := K) (H0 := H6) (hL.same s16) (fun j σ H' => ∃ (v7 v8 : Option V), σ = [some (.ref p), some (.ref t), some (.ref nl), some (.int (k0 : Nat)), some (.ref l), some (.str z), some (.ref l4), v7, v8] ∧ Same H6 H') ⟨_, _, rfl, Same.refl _⟩ (fun j σ H' _ ⟨_, _, _, s⟩ => s) ?_ ?_
      · rintro j r q σ H7 hj hq ⟨v7, v8, rfl, s7⟩
        rw [List.getElem?_map] at hj
        obtain ⟨⟨n, y⟩, hny, rfl⟩ := Option.map_eq_some_iff.mp hj
        have ym := List.mem_of_getElem? hny
        have yl : strLen y ≤ 40 := hG.len _ ym
        have s27 : Same H1 H7 := ((((s2.trans s3).trans s4).trans s5).trans s6).trans s7
        refine g2 hq ?_
        have eb : ∀ b : Bool, (b = true ↔ z.cps.toList <:+ y.cps.toList) → (!decide (V.bl b = V.bl (decide (V.str (cutS y (some (if (0 : Int) < ((y.length : Nat) : Int) - ((z.length : Nat) : Int) then ((y.length : Nat) : Int) - ((z.length : Nat) : Int) else 0)) none) = V.str z)))) = false := fun b hb => by
          have e1 : (if (0 : Int) < ((y.length : Nat) : Int) - ((z.length : Nat) : Int) then ((y.length : Nat) : Int) - ((z.length : Nat) : Int) else 0) = ((strLen y - strLen z : Nat) : Int) := by
            have h1 : y.length = strLen y := rfl
            have h2 : z.length = strLen z := rfl
            rw [h1, h2]
            split <;> omega
          rw [e1, cutS_drop]
          have e2 : decide (V.str (sufS y (strLen y - strLen z)) = V.str z) = b := by
            rw [Bool.eq_iff_iff, decide_eq_true_iff, hb, suf_drop]
            constructor
            · intro h; injection h
            · intro h; rw [h]
          rw [e2]
          simp
        have yl' : y.length = strLen y := rfl
        have zl' : z.length = strLen z := rfl
        refine ⟨_, rfl, _, rfl, _, rfl, l, ts, L, z, n, rfl, M.same s27, N, fun hex => ?_, fun hno => ?_⟩
        · have hs : z.cps.toList <:+ y.cps.toList := by
            obtain ⟨y', h1, h2⟩ := hex
            have e1 := txt_of_mem hG.asc ym
            have e2 := txt_of_mem hG.asc h1
            rw [e1] at e2
            cases e2
            exact h2
          refine ⟨_, rfl, _, rfl, y, rfl, small (by omega), _, rfl, z, rfl, small (by omega), _, _, rfl, rfl, _, _, rfl, _, rfl, y, rfl, small (by omega), _, rfl, rfl, rfl, _, rfl, if_neg_of (fun q => ?_) ⟨_, _, rfl, s7⟩⟩
          rw [eb true ⟨fun _ => hs, fun _ => rfl⟩] at q
          cases q
        · have hs : ¬ z.cps.toList <:+ y.cps.toList := hno y ym
          refine ⟨_, rfl, _, rfl, y, rfl, small (by omega), _, rfl, z, rfl, small (by omega), _, _, rfl, rfl, _, _, rfl, _, rfl, y, rfl, small (by omega), _, rfl, rfl, rfl, _, rfl, if_neg_of (fun q => ?_) ⟨_, _, rfl, s7⟩⟩
          rw [eb false ⟨fun h => (by cases h), fun h => absurd h hs⟩] at q
          cases q
      · rintro σ H7 ⟨v7, v8, rfl, s7⟩
        exact ⟨_, _, _, _, rfl, ((((s3.trans s4).trans s5).trans s6).trans s7)⟩
    · rintro σ H3 ⟨v5, v6, v7, v8, rfl, s3⟩
      exact hQ H3 (s12.trans s3)
end
end Sfx
end
section
set_option Elab.async false
set_option linter.all false
set_option maxRecDepth 100000
set_option maxHeartbeats 4000000
namespace Sfx
open PySem PySem.Spec L2
def orow (t : Int × Str) (k : Nat) : List V := [.str (sufS t.2 k), .int t.1, .int (k : Nat)]
def orowE (ts : List (Int × Str)) (e : Int × Nat) : List V := [.str (keyE ts e).1, .int e.1, .int (e.2 : Nat)]
def orows (ts : List (Int × Str)) : List (List V) := ts.flatMap fun t => (List.range (strLen t.2 + 1)).map (orow t)
theorem orows_ends {ts : List (Int × Str)} (ha : Asc ts) : orows ts = (ends ts).map (orowE ts) := by
  unfold orows ends
  rw [List.map_flatMap]
  have : ∀ us : List (Int × Str), (∀ t ∈ us, t ∈ ts) → us.flatMap (fun t => (List.range (strLen t.2 + 1)).map (orow t)) = us.flatMap fun t => (endsOf t).map (orowE ts) := fun us hu => by
    induction us with
    | nil => rfl
    | cons t r ih =>
      rw [List.flatMap_cons, List.flatMap_cons, ih fun x hx => hu x (List.mem_cons_of_mem _ hx)]
      congr 1
      unfold endsOf
      rw [List.map_map]
      refine List.map_congr_left fun k _ => ?_
      have h := txt_of_mem (n := t.1) (z := t.2) ha (hu t List.mem_cons_self)
      show orow t k = orowE ts (t.1, k)
      unfold orow orowE keyE
      rw [h]
      rfl
  exact this ts fun _ h => h
theorem siLt_row3 {p q : Str × Int} (a b : V) (h : siLt p q = true) : rowLt [.str q.1, .int q.2, b] [.str p.1, .int p.2, a] = false := by
  by_cases e : p.1 = q.1
  · unfold siLt at h
    rw [if_pos e] at h
    have := of_decide_eq_true h
    rw [e, rowLt_str_eq, rowLt_int, decide_eq_false (by omega), decide_eq_true this]
    rfl
  · rw [rowLt_str_ne (Ne.symm e)]
    cases c : decide (q.1.cps.toList < p.1.cps.toList) with
    | false => rfl
    | true =>
      have g : siLt q p = true := by unfold siLt; rw [if_neg (Ne.symm e)]; exact c
      have := siLt_trans h g
      rw [siLt_irrefl] at this
      cases this
theorem order_rows {ts : List (Int × Str)} {ol : List (Int × Nat)} {rows' : List (List V)} (ha : Asc ts) (ho : IsOrder ts ol) (p : rows'.Perm (orows ts)) (hs : rows'.Pairwise fun x y => rowLt y x = false) : rows' = ol.map (orowE ts) := by
  rw [orows_ends ha] at p
  refine sorted_uniq (sh := [true, false, false]) (fun r hr => ?_) (p.trans (ho.1.map (orowE ts)).symm) hs ?_
  · obtain ⟨e, _, rfl⟩ := List.mem_map.mp (p.mem_iff.mp hr)
    rfl
  · rw [List.pairwise_map]
    exact ho.2.imp fun h => siLt_row3 _ _ h
theorem orows_len {ts : List (Int × Str)} (h : ∀ t ∈ ts, strLen t.2 ≤ 40) : (orows ts).length ≤ 41 * ts.length := by
  unfold orows
  induction ts with
  | nil => simp
  | cons t r ih =>
    have h1 := h t List.mem_cons_self
    have h2 := ih fun x hx => h x (List.mem_cons_of_mem _ hx)
    rw [List.flatMap_cons, List.length_append, List.length_cons, List.length_map, List.length_range]
    omega
theorem orows_take {ts : List (Int × Str)} {i : Nat} {t : Int × Str} (h : ts[i]? = some t) : orows (ts.take (i + 1)) = orows (ts.take i) ++ (List.range (strLen t.2 + 1)).map (orow t) := by
  unfold orows
  rw [take_snoc h, List.flatMap_append]
  simp
section
variable {P : Program} {w : World} {K : PySem.W.Frag} {mg : Str → Option Value} {base : Heap} {ec : Nat → Addr} {CN CB CT CH cHE : Addr}
abbrev s__law_order : Stmt := topS 47
abbrev N__law_order : List Str := ["_law_house", "_law_texts", "_law_drawn", "_law_rows", "_law_number_here", "_law_text_here", "_law_start", "_law_commons", "_law_k", "_law_same_here", "_law_j", "_law_row"]
theorem sc__law_order : FnScope ["_law_house", "_law_texts", "_law_drawn", "_law_rows", "_law_number_here", "_law_text_here", "_law_start", "_law_commons", "_law_k", "_law_same_here", "_law_j", "_law_row"] ["_law_house", "_law_texts", "_law_drawn"] (defScope s__law_order) := ⟨rfl, rfl, rfl, by decide +kernel, rfl, by decide +kernel, by decide +kernel⟩
def sp__law_order (CH : Addr) : Sp := fun vs H Q _ => ∃ (G : Hp) (p t : Addr) (d : HD) (ts : List (Int × Str)) (ol : List (Int × Nat)) (hi : List (Str × Int × Str)) (dr : Int), vs = [.ref p, .ref t, .int dr] ∧ HAt CH G p d ts ol hi ∧ Same G H ∧ LT H t (ts.map hrow) ∧ ∀ H', Same H H' → Q (.bl true) H'
theorem ok__law_order {f : Addr} {fd : FuncData} (F : Fun K "_law_order" "_law_order" s__law_order f fd) (T : Txt mg) (TH : TxtH K CH) (h_House_order : HasM P w K mg base CX0 CH "order" 1 ["self"] (sp_House_order CH)) (h_House_commons : HasM P w K mg base CX0 CH "commons" 1 ["self"] (sp_House_commons CH)) :
    FnOk P w K mg base CX0 2 f fd ["_law_house", "_law_texts", "_law_drawn"] (sp__law_order CH) := by
  refine F.ok sc__law_order (fun vs H Q E h => ?_) (fun cdv A outer s H vs Q E hr h => ?_)
  · obtain ⟨G, p, t, d, ts, ol, hi, dr, rfl, _⟩ := h
    rfl
  · obtain ⟨G, p, t, d, ts, ol, hi, dr, rfl, hA, sG, hL, hQ⟩ := h
    have hu64 : (A.deeper (PyProof.Rows.envOfC "_law_order" (defScope s__law_order) s.heap.objs.size f cdv)).units + 64 < cLine := by
      have := hr.un
      omega
    refine ⟨_, (pss_cons (ps_set (i := 3) sc__law_order.nd rfl (Or.inl rfl) (pe_lst pa_nil))
      (pss_cons (ps_for PassesOwn.never rfl (pi_list (pv 1)) (pg_tup rfl (pgs_cons (pg_name (i := 4) sc__law_order.nd rfl (Or.inl rfl)) (pgs_cons (pg_name (i := 5) sc__law_order.nd rfl (Or.inl rfl)) pgs_nil)))
      (pss_one (ps_for PassesOwn.never rfl (pi_range1 rfl T.range (pa_cons (pe_op op_add (pe_callB call_len_str (by rfl) T.len (by decide +kernel) (pa_cons (pv 5) pa_nil)) pe_int) pa_nil)) (pg_name (i := 6) sc__law_order.nd rfl (Or.inl rfl))
      (pss_one (ps_expr (pe_bm PySem.F.plainAttrs_list PySem.F.slot_list_append PySem.F.type_list_append mt_append (pv 3) (pa_cons (pe_tup (pa_cons (pe_slice sl_str (pv 5) (po_some (pv 6)) po_none) (pa_cons (pv 4) (pa_cons (pv 6) pa_nil)))) pa_nil)))))))
      (pss_cons (ps_set (i := 3) sc__law_order.nd rfl (Or.inl rfl) (pe_callB cr_sortedM (by rfl) T.sorted (by decide +kernel) (pa_cons (pv 3) pa_nil)))
      (pss_cons (ps_set (i := 7) sc__law_order.nd rfl (Or.inl rfl) (pe_lst pa_nil))
      (pss_cons (ps_for PassesOwn.never rfl (pi_range1 rfl T.range (pa_cons (pe_callB (lenQ K) (by rfl) T.len (by decide +kernel) (pa_cons (pv 3) pa_nil)) pa_nil)) (pg_name (i := 8) sc__law_order.nd rfl (Or.inl rfl))
      (pss_cons (ps_set (i := 9) sc__law_order.nd rfl (Or.inl rfl) pe_int)
      (pss_cut (ps_if (pt_cmpR op_gt (pv 8) pe_int (nomark _))
      (pss_one (ps_for PassesOwn.never rfl (pi_range1 rfl T.range (pa_cons (pe_callB (call_min2 rfl) (by rfl) T.min (by decide +kernel) (pa_cons (pe_callB call_len_str (by rfl) T.len (by decide +kernel) (pa_cons (pe_ix (ixT K) (pe_ix (ixL K) (pv 3) (pv 8) (fun _ _ => rfl)) pe_int (fun _ _ => rfl)) pa_nil)) (pa_cons (pe_callB call_len_str (by rfl) T.len (by decide +kernel) (pa_cons (pe_ix (ixT K) (pe_ix (ixL K) (pv 3) (pe_op op_sub (pv 8) pe_int) (fun _ _ => rfl)) pe_int (fun _ _ => rfl)) pa_nil)) pa_nil))) pa_nil)) (pg_name (i := 10) sc__law_order.nd rfl (Or.inl rfl))
      (pss_cons (ps_if (pt_cmpR op_ne (pe_ix ix_str (pe_ix (ixT K) (pe_ix (ixL K) (pv 3) (pv 8) (fun _ _ => rfl)) pe_int (fun _ _ => rfl)) (pv 10) (fun _ _ => rfl)) (pe_ix ix_str (pe_ix (ixT K) (pe_ix (ixL K) (pv 3) (pe_op op_sub (pv 8) pe_int) (fun _ _ => rfl)) pe_int (fun _ _ => rfl)) (pv 10) (fun _ _ => rfl)) (nomark _))
      (pss_one ps_break)
      pss_nil)
      (pss_one (ps_set (i := 9) sc__law_order.nd rfl (Or.inl rfl) (pe_op op_add (pv 9) pe_int))))))
      pss_nil)
      (pss_one (ps_expr (pe_bm PySem.F.plainAttrs_list PySem.F.slot_list_append PySem.F.type_list_append mt_append (pv 7) (pa_cons (pv 9) pa_nil)))))))
      (pss_cut (ps_if (PW.pt (pw_and (pt_cmpR op_eq (pe_op op_mod (pe_callTy call_int1 (by rfl) T.int (by decide +kernel) (pa_cons (pv 2) pa_nil)) pe_int) pe_int (nomark _)) (pw_and1 (pt_cmpR (neD K (by exact hu64)) (pe_methG0 (pv 0) h_House_commons (hr.mono (by decide)) p0) (pv 7) (nomark _)))))
      (pss_one (ps_ret pe_bl))
      pss_nil)
      (pss_one (ps_ret (pe_and (pe_cmpR (eqD K (by exact hu64)) (pe_methG0 (pv 0) h_House_order (hr.mono (by decide)) p0) (pe_lc (own := [("_law_row", 11)]) (g := (gName 11)) (tt := tYes) rfl sc__law_order.nd (pi_list (pv 3)) (blkOk_by (own := [("_law_row", 11)]) (N := N__law_order) (sc := defScope s__law_order) (by decide +kernel)) (fun _ _ _ _ _ => (pg_name (i := 11) sc__law_order.nd rfl (Or.inl rfl))) (fun _ _ _ _ _ => pts_nil) (fun _ _ _ _ _ => (pe_tup (pa_cons (pe_ix (ixT K) (pv 11) pe_int (fun _ _ => rfl)) (pa_cons (pe_ix (ixT K) (pv 11) pe_int (fun _ _ => rfl)) pa_nil))))) (nomark _)) (pe_one (pe_cmpR (eqD K (by exact hu64)) (pe_methG0 (pv 0) h_House_commons (hr.mono (by decide)) p0) (pv 7) (nomark _)))))))))))), ?_⟩
    have hG := hA.good
    have h8 := hG.most
    have hB := hA.same sG
    have hp := hB.obj
    refine ⟨Nat.zero_le _, fun D hD => ⟨_, rfl, t, rfl, ⟨_, SqL.of ((hL.same (same_upd hD)).choose_spec.1)⟩, ?_⟩⟩
    refine for_LT (K := K) hL (fun i σ H' => ∃ (v4 v5 v6 : Option V), σ = [some (.ref p), some (.ref t), some (.int dr), some (.ref D), v4, v5, v6, none, none, none, none, none] ∧ Same H H' ∧ LT H' D (orows (ts.take i))) ⟨none, none, none, rfl, same_upd hD, LT.nil⟩ (fun i σ H' _ ⟨_, _, _, _, s, _⟩ => s) ?_ ?_
    · rintro i r q σ H1 hi' hq ⟨v4, v5, v6, rfl, s1, g1⟩
      rw [List.getElem?_map] at hi'
      obtain ⟨⟨n, y⟩, hny, rfl⟩ := Option.map_eq_some_iff.mp hi'
      have yl : strLen y ≤ 40 := hG.len _ (List.mem_of_getElem? hny)
      have yl' : y.length = strLen y := rfl
      have hol : (orows (ts.take i)).length ≤ 328 := by
        have h1 := orows_len (ts := ts.take i) fun t ht => hG.len t (List.mem_of_mem_take ht)
        rw [List.length_take] at h1
        omega
      refine g2 hq ?_
      refine ⟨_, rfl, y, rfl, small (by omega), _, _, rfl, rfl, _, rfl, by omega, by omega, ?_⟩
      refine for_range (fun k σ H' => ∃ (v6 : Option V), σ = [some (.ref p), some (.ref t), some (.int dr), some (.ref D), some (.int n), some (.str y), v6, none, none, none, none, none] ∧ Same H H' ∧ LT H' D (orows (ts.take i) ++ (List.range k).map (orow (n, y)))) ⟨_, rfl, s1, by simpa using g1⟩ ?_ ?_
      · rintro k σ H2 hk ⟨v6, rfl, s2, g2'⟩
        rw [Int.zero_add]
        have hk' : k < 1001 := by omega
        obtain ⟨acc0, a0, _⟩ := id g2'
        refine ⟨_, rfl, .inl ⟨rfl, _, SqL.of a0⟩, _, rfl, _, rfl, _, rfl, y, rfl, small (by omega), ?_⟩
        dsimp only
        rw [cutS_drop]
        refine ⟨_, rfl, _, rfl, (by show 3 ≤ sizeLine; decide), fun t2 ht2 => ?_⟩
        obtain ⟨acc, a1, a2, a3⟩ := (g2'.same (same_upd (o := .tup (orow (n, y) k)) ht2)).app (p := t2) (r := orow (n, y) k) upd_same
        refine ⟨D, acc, _, rfl, rfl, a1, smallLt (by rw [a2, List.length_append, List.length_map, List.length_range]; omega), ?_⟩
        refine ⟨_, rfl, same_wr (s2.trans (same_upd ht2)) hD, ?_⟩
        rw [List.range_succ, List.map_append, ← List.append_assoc]
        exact a3
      · rintro σ H2 ⟨v6, rfl, s2, g2'⟩
        refine ⟨_, _, _, rfl, s2, ?_⟩
        rw [orows_take hny]
        have e : (((y.length : Nat) : Int) + 1).toNat = strLen y + 1 := by omega
        rw [e] at g2'
        exact g2'
    rintro σ H1 ⟨v4, v5, v6, rfl, s1, g1⟩
    rw [List.length_map, List.take_length] at g1
    refine ⟨_, rfl, D, _, [true, false, false], rfl, g1, by simp, fun r hr => ?_, fun qs rows' R hperm hpair hsort hR => ?_⟩
    · unfold orows at hr
      obtain ⟨t', _, hr⟩ := List.mem_flatMap.mp hr
      obtain ⟨k, _, rfl⟩ := List.mem_map.mp hr
      rfl
    have er := order_rows hG.asc hA.ord hperm hsort
    subst er
    have oll := order_len hG hA.ord
    have s2 : Same H (upd H1 R (.lst (qs.map V.ref))) := same_to s1 hR
    have gR : LT (upd H1 R (.lst (qs.map V.ref))) R (ol.map (orowE ts)) := ⟨qs, upd_same, paired_imp (fun _ _ e => same_upd hR _ _ e) hpair⟩
    generalize upd H1 R (.lst (qs.map V.ref)) = H2 at s2 gR ⊢
    refine ⟨Nat.zero_le _, fun C hC => ?_⟩
    have s3 := same_to s2 hC (o := .lst [])
    have CH' : H C = none := s2.free hC
    obtain ⟨qr, gR0, gRp⟩ := id gR
    have olk := order_ok hG hA.ord
    have row : ∀ {k : Nat} {e : Int × Nat}, ol[k]? = some e → ∃ q, qr[k]? = some q ∧ H2 q = some (.tup (orowE ts e)) ∧ (keyE ts e).1.length ≤ 1000 := fun {k e} he => by
      obtain ⟨q, q1, q2⟩ := paired_get gRp (i := k) (by rw [List.getElem?_map, he]; rfl)
      refine ⟨q, q1, q2, ?_⟩
      obtain ⟨z, z1, z2, z3⟩ := olk e (List.mem_of_getElem? he)
      show (keyE ts e).1.cps.toList.length ≤ 1000
      unfold keyE
      rw [z1]
      show (sufS z e.2).cps.toList.length ≤ 1000
      rw [sufS_list, List.length_drop]
      have : z.cps.toList.length ≤ 1000 := z2
      omega
    have qrl : qr.length = ol.length := by have := paired_len gRp; rw [List.length_map] at this; exact this
    refine ⟨_, rfl, R, _, rfl, .inl (SqL.of (same_upd hC _ _ gR0)), _, rfl, by rw [List.length_map]; omega, by rw [List.length_map]; omega, ?_⟩
    have hcl : (comms (ol.map (letE ts))).length = ol.length := by unfold comms; rw [List.length_map, List.length_range, List.length_map]
    refine for_range (fun k σ H' => ∃ (v8 v9 v10 : Option V), σ = [some (.ref p), some (.ref t), some (.int dr), some (.ref R), v4, v5, v6, some (.ref C), v8, v9, v10, none] ∧ Same H2 H' ∧ H' C = some (.lst (((comms (ol.map (letE ts))).take k).map fun n => V.int (n : Nat)))) ⟨_, _, _, rfl, same_upd hC, by rw [upd_same]; rfl⟩ ?_ ?_
    · rintro k σ H3 hk ⟨v8, v9, v10, rfl, t3, g3⟩
      rw [Int.zero_add]
      have hk : k < ol.length := by rw [List.length_map, qrl] at hk; simpa using hk
      obtain ⟨e, he⟩ : ∃ e, ol[k]? = some e := ⟨_, List.getElem?_eq_getElem hk⟩
      obtain ⟨q, q1, q2, q3⟩ := row he
      have q2 := t3 _ _ q2
      have r3 := t3 _ _ gR0
      have Lk : (ol.map (letE ts)).getD k [] = letE ts e := by rw [List.getD_eq_getElem?_getD, List.getElem?_map, he]; rfl
      refine ⟨fun σ' H' => ∃ (v10 : Option V), H' = H3 ∧ σ' = [some (.ref p), some (.ref t), some (.int dr), some (.ref R), v4, v5, v6, some (.ref C), some (.int (k : Nat)), some (.int ((if k = 0 then 0 else lcp ((ol.map (letE ts)).getD (k - 1) []) ((ol.map (letE ts)).getD k [])) : Nat)), v10, none], ?_, ?_⟩
      · refine ⟨_, rfl, _, _, rfl, rfl, _, rfl, ?_⟩
        by_cases k0 : k = 0
        · subst k0
          exact if_neg_of (by simp) ⟨_, rfl, rfl⟩
        refine if_pos_of (by simp; omega) ?_
        obtain ⟨e', he'⟩ : ∃ e, ol[k - 1]? = some e := ⟨_, List.getElem?_eq_getElem (by omega)⟩
        obtain ⟨q', q1', q2', q3'⟩ := row he'
        have q2' := t3 _ _ q2'
        have Lk' : (ol.map (letE ts)).getD (k - 1) [] = letE ts e' := by rw [List.getD_eq_getElem?_getD, List.getElem?_map, he']; rfl
        rw [if_neg k0, Lk, Lk']
        have hx : (keyE ts e').1.length = (letE ts e').length := rfl
        have hy : (keyE ts e).1.length = (letE ts e).length := rfl
        have le2 := lcp_le (letE ts e') (letE ts e)
        refine ⟨_, rfl, _, rfl, R, _, _, _, rfl, rfl, SqL.of r3, atI_ref (i := k) (by omega) q1, q, _, 0, _, rfl, rfl, SqT.of q2, rfl, (keyE ts e).1, rfl, small (by omega), ?_⟩
        refine ⟨_, rfl, _, rfl, _, _, rfl, rfl, R, _, _, _, rfl, rfl, SqL.of r3, atI_ref (i := k - 1) (by omega) q1', q', _, 0, _, rfl, rfl, SqT.of q2', rfl, (keyE ts e').1, rfl, small (by omega), _, _, rfl, _, rfl, by split <;> omega, by split <;> omega, ?_⟩
        refine for_range (fun j σ H' => ∃ (v10 : Option V), H' = H3 ∧ σ = [some (.ref p), some (.ref t), some (.int dr), some (.ref R), v4, v5, v6, some (.ref C), some (.int (k : Nat)), some (.int (j : Nat)), v10, none] ∧ j ≤ lcp (letE ts e') (letE ts e)) ⟨v10, rfl, rfl, Nat.zero_le _⟩ ?_ ?_
        · rintro j σ H4 hj ⟨v10, rfl, rfl, hjl⟩
          rw [Int.zero_add]
          have hj1 : j < (letE ts e').length ∧ j < (letE ts e).length := by
            have hj : j < (if ((keyE ts e').1.length : Int) < ((keyE ts e).1.length : Int) then ((keyE ts e').1.length : Int) else ((keyE ts e).1.length : Int)).toNat := hj
            rw [hx, hy] at hj
            split at hj <;> omega
          obtain ⟨a, ha⟩ : ∃ a, (letE ts e)[j]? = some a := ⟨_, List.getElem?_eq_getElem hj1.2⟩
          obtain ⟨b, hb⟩ : ∃ a, (letE ts e')[j]? = some a := ⟨_, List.getElem?_eq_getElem hj1.1⟩
          refine ⟨_, rfl, _, rfl, R, _, _, _, rfl, rfl, SqL.of r3, atI_ref (i := k) (by omega) q1, q, _, 0, _, rfl, rfl, SqT.of q2, rfl, _, rfl, (keyE ts e).1, _, a, rfl, rfl, small (by omega), atI_nat ha, ?_⟩
          refine ⟨_, rfl, _, rfl, _, _, rfl, rfl, R, _, _, _, rfl, rfl, SqL.of r3, atI_ref (i := k - 1) (by omega) q1', q', _, 0, _, rfl, rfl, SqT.of q2', rfl, _, rfl, (keyE ts e').1, _, b, rfl, rfl, small (by omega), atI_nat hb, rfl, _, rfl, ?_⟩
          by_cases eab : a = b
          · subst eab
            refine if_neg_of (by simp) ⟨_, rfl, _, _, rfl, rfl, _, rfl, rfl, ?_⟩
            refine lcp_step ?_ (by omega) (by omega)
            have e3 : (letE ts e').take j = (letE ts e).take j := by
              have e4 := congrArg (fun l : List Nat => l.take j) (lcp_take (letE ts e') (letE ts e))
              simpa [List.take_take, Nat.min_eq_left hjl] using e4
            rw [take_snoc hb, take_snoc ha, e3]
          · refine if_pos_of (by simp [eab]) ?_
            have := lcp_stop hb ha (Ne.symm eab)
            have ej : j = lcp (letE ts e') (letE ts e) := by omega
            exact ⟨_, rfl, by rw [← ej]; rfl⟩
        · rintro σ H4 ⟨v10, rfl, rfl, hjl⟩
          have ej : (if ((keyE ts e').1.length : Int) < ((keyE ts e).1.length : Int) then ((keyE ts e').1.length : Int) else ((keyE ts e).1.length : Int)).toNat = lcp (letE ts e') (letE ts e) := by
            rw [hx, hy] at hjl ⊢
            have hjl : (if ((letE ts e').length : Int) < ((letE ts e).length : Int) then ((letE ts e').length : Int) else ((letE ts e).length : Int)).toNat ≤ lcp (letE ts e') (letE ts e) := hjl
            split at hjl <;> split <;> omega
          exact ⟨_, rfl, by rw [← ej]⟩
      · rintro σ' H' ⟨v10, rfl, rfl⟩
        refine ⟨_, rfl, .inl ⟨rfl, _, SqL.of g3⟩, _, rfl, C, _, _, rfl, rfl, g3, smallLt (by rw [List.length_map, List.length_take]; omega), ?_⟩
        refine ⟨_, _, _, rfl, same_wr t3 hC, ?_⟩
        rw [upd_same, take_snoc (comms_get (by rw [List.length_map]; exact hk)), List.map_append]
        rfl
    · rintro σ H3 ⟨v8, v9, v10, rfl, t3, g3⟩
      rw [List.length_map, qrl, Int.toNat_natCast, List.take_of_length_le (by rw [hcl]; exact Nat.le_refl _)] at g3
      have s4 : Same H H3 := s2.trans t3
      have iC : ∀ v ∈ (comms (ol.map (letE ts))).map (fun n => V.int (n : Nat)), iS v = true := fun v hv => by
        obtain ⟨n, _, rfl⟩ := List.mem_map.mp hv
        rfl
      have iO : ∀ r ∈ ol.map erow, simp1 r := simp_map fun e _ => simp_erow e
      have cmp : ∀ {H' l}, Same H3 H' → H' l = some (.lst ((comms (ol.map (letE ts))).map fun n => V.int (n : Nat))) → Dp K H' (.ref l) (.list (((comms (ol.map (letE ts))).map fun n => V.int (n : Nat)).map dV)) := fun _ h => dp_vals h fun v hv => dp_v (iC v hv)
      have sh : SeqAt.shaped (.list (((comms (ol.map (letE ts))).map fun n => V.int (n : Nat)).map dV)) = true := shaped_vs fun v hv => lV_iS (iC v hv)
      refine ⟨fun σ' H' => σ' = [some (.ref p), some (.ref t), some (.int dr), some (.ref R), v4, v5, v6, some (.ref C), v8, v9, v10, none] ∧ Same H3 H', ?_, ?_⟩
      · refine ⟨_, rfl, .inl ⟨_, rfl, _, _, rfl, rfl, (by show (0 : Int) < 2; decide), rfl, _, rfl, ?_⟩⟩
        by_cases c1 : dr % 2 = 0
        · refine if_pos_of (by simp [c1]) ?_
          refine ⟨_, rfl, p, d.dx, _, rfl, s4 _ _ hp, rfl, G, p, d, ts, ol, hi, rfl, hA, sG.trans s4, fun H4 l4 t4 f4 g4 => ?_⟩
          refine ⟨_, rfl, _, _, cmp t4 g4, cmp t4 (t4 _ _ g3), sh, sh, ?_⟩
          rw [eqv_vals iC iC]
          exact ⟨_, rfl, if_neg_of (by simp) ⟨rfl, t4⟩⟩
        · exact if_neg_of (by simp [c1]) (if_neg_of (by simp) ⟨rfl, Same.refl _⟩)
      · rintro σ' H4 ⟨rfl, t4⟩
        have s5 := s4.trans t4
        have g5 := t4 _ _ g3
        refine ⟨_, rfl, p, d.dx, _, rfl, s5 _ _ hp, rfl, G, p, d, ts, ol, hi, rfl, hA, sG.trans s5, fun H5 l5 t5 f5 g5' => ?_⟩
        have gR5 := (gR.same (t3.trans t4)).same t5
        refine ⟨_, rfl, R, rfl, ⟨_, SqL.of gR5.choose_spec.1⟩, fun M hM => ?_⟩
        refine lc_LT (K := K) (H0 := H5) gR5 (fun i H' => Same H5 H' ∧ LT H' M ((ol.take i).map erow)) ⟨same_upd hM, LT.nil⟩ (fun i H' _ h => h.1) ?_ ?_
        · rintro i r q H' hi' hq ⟨t6, g6⟩
          rw [List.getElem?_map] at hi'
          obtain ⟨e, he, rfl⟩ := Option.map_eq_some_iff.mp hi'
          have hil : i < ol.length := (List.getElem?_eq_some_iff.mp he).1
          refine ⟨rfl, ⟨_, rfl, q, _, 1, _, rfl, rfl, SqT.of hq, rfl, _, rfl, q, _, 2, _, rfl, rfl, SqT.of hq, rfl, (by show 2 ≤ sizeLine; decide), fun t2 ht2 => ?_⟩⟩
          obtain ⟨acc, a1, a2, a3⟩ := (g6.same (same_upd (o := .tup (erow e)) ht2)).app (p := t2) (r := erow e) upd_same
          refine ⟨acc, a1, smallLt (by rw [a2, List.length_map, List.length_take]; omega), same_wr (t6.trans (same_upd ht2)) hM, ?_⟩
          rw [take_snoc he, List.map_append]
          exact a3
        · rintro H6 ⟨t6, g6⟩
          rw [List.length_map, List.take_length] at g6
          refine ⟨_, _, dp_rows (g5'.same t6) iO, dp_rows g6 iO, shaped_rows iO, shaped_rows iO, ?_⟩
          rw [eqv_rows iO iO]
          refine ⟨_, rfl, if_pos_of (by simp) ?_⟩
          have s6 := (s5.trans t5).trans t6
          refine ⟨_, rfl, p, d.dx, _, rfl, s6 _ _ hp, rfl, G, p, d, ts, ol, hi, rfl, hA, sG.trans s6, fun H7 l7 t7 f7 g7 => ?_⟩
          refine ⟨_, rfl, _, _, dp_vals g7 (fun v hv => dp_v (iC v hv)), dp_vals (t7 _ _ (t6 _ _ (t5 _ _ g5))) (fun v hv => dp_v (iC v hv)), sh, sh, ?_⟩
          rw [eqv_vals iC iC, decide_eq_true rfl]
          exact hQ H7 (s6.trans t7)
end
end Sfx
end
section
set_option Elab.async false
set_option linter.all false
set_option maxRecDepth 100000
set_option maxHeartbeats 4000000
namespace Sfx
open PySem PySem.Spec L2
def cutw (y : Str) (a b : Nat) : Str := toS ((y.cps.toList.take b).drop a)
/-- the stretches of the texts -/
def IsF (ts : List (Int × Str)) (s : Str) : Prop := ∃ t ∈ ts, ∃ a b, a ≤ b ∧ b ≤ strLen t.2 ∧ s = cutw t.2 a b
theorem occs_back {ts : List (Int × Str)} (ha : Asc ts) (v : W) : (plc ts v).map (fun x => (x.1, x.2 + v.length)) = allOccs ts v := by
  rw [← plc_of ha, List.map_map]
  have : ∀ x ∈ allOccs ts v, ((fun x : Int × Nat => (x.1, x.2 + v.length)) ∘ fun x : Int × Nat => (x.1, x.2 - v.length)) x = id x := fun ⟨n, e⟩ hx => by
    obtain ⟨z, _, h1, h2⟩ := mem_allOccs.mp hx
    have := (occ_start h1 h2).1
    show (n, e - v.length + v.length) = (n, e)
    rw [Nat.sub_add_cancel this]
  rw [List.map_congr_left this, List.map_id]
/-- the dict of the classes so far: the keys that P tells -/
structure CAt (H : Hp) (c : Addr) (ts : List (Int × Str)) (Pk : Str → Prop) (N : Nat) : Prop where
  ex : ∃ (kvs : List (Key × V)) (ks : List Str), H c = some (.dK kvs) ∧ kvs.map (·.1) = ks.map Sum.inr ∧ ks.Nodup ∧ (∀ s, s ∈ ks ↔ Pk s) ∧ kvs.length ≤ N ∧ ∀ s ∈ ks, ∃ a, valV kvs (.inr s) = some (.ref a) ∧ a ≠ c ∧ LT H a ((allOccs ts s.cps.toList).map erow)
theorem CAt.imp {H : Hp} {c : Addr} {ts : List (Int × Str)} {Pk Pk' : Str → Prop} {N N' : Nat} (h : CAt H c ts Pk N) (hp : ∀ s, Pk' s ↔ Pk s) (hn : N ≤ N') : CAt H c ts Pk' N' := by
  obtain ⟨kvs, ks, a1, a2, a3, a4, a5, a6⟩ := h.ex
  exact ⟨kvs, ks, a1, a2, a3, fun s => (a4 s).trans (hp s).symm, by omega, a6⟩
theorem CAt.same {H H' : Hp} {c : Addr} {ts : List (Int × Str)} {Pk : Str → Prop} {N : Nat} (h : CAt H c ts Pk N) (s : Same H H') : CAt H' c ts Pk N := by
  obtain ⟨kvs, ks, a1, a2, a3, a4, a5, a6⟩ := h.ex
  exact ⟨kvs, ks, s _ _ a1, a2, a3, a4, a5, fun x hx => let ⟨a, b1, b2, b3⟩ := a6 x hx; ⟨a, b1, b2, b3.same s⟩⟩
theorem key_none {kvs : List (Key × V)} {ks : List Str} {s : Str} (h : kvs.map (·.1) = ks.map Sum.inr) (n : s ∉ ks) : valV kvs (.inr s) = none := by
  cases q : valV kvs (.inr s) with
  | none => rfl
  | some v =>
    have := valV_in q
    rw [h, List.mem_map] at this
    obtain ⟨x, hx, e⟩ := this
    exact absurd (Sum.inr.inj e ▸ hx) n
theorem CAt.put {H : Hp} {c l : Addr} {ts : List (Int × Str)} {Pk : Str → Prop} {N : Nat} {s : Str} (h : CAt H c ts Pk N) (hs : ¬ Pk s) (hl : LT H l ((allOccs ts s.cps.toList).map erow)) : ∃ kvs, H c = some (.dK kvs) ∧ kvs.length ≤ N ∧ valV kvs (.inr s) = none ∧ CAt (upd H c (.dK (putK kvs (.inr s) (.ref l)))) c ts (fun x => Pk x ∨ x = s) (N + 1) := by
  obtain ⟨kvs, ks, a1, a2, a3, a4, a5, a6⟩ := h.ex
  have n : s ∉ ks := fun q => hs ((a4 s).mp q)
  have v0 := key_none a2 n
  have lc : l ≠ c := fun e => by obtain ⟨q, q1, _⟩ := hl; rw [e, a1] at q1; cases q1
  have kp : ∀ {a rows}, a ≠ c → LT H a rows → LT (upd H c (.dK (putK kvs (.inr s) (.ref l)))) a rows := fun ne ⟨q, q1, q2⟩ =>
    ⟨q, by rw [upd_ne ne]; exact q1, paired_imp (fun p r e => by rw [upd_ne (ne_kind a1 e (fun z => nomatch z))]; exact e) q2⟩
  refine ⟨kvs, a1, a5, v0, ⟨putK kvs (.inr s) (.ref l), ks ++ [s], upd_same, ?_, ?_, fun x => ?_, ?_, fun x hx => ?_⟩⟩
  · rw [putK_new _ v0, List.map_append, List.map_append, a2]; rfl
  · rw [List.nodup_append]
    refine ⟨a3, by simp, fun x hx y hy e => n ?_⟩
    have : y = s := by simpa using hy
    rw [← this, ← e]; exact hx
  · rw [List.mem_append, List.mem_singleton, a4]
  · have := length_putK kvs (.inr s) (.ref l); omega
  · rcases List.mem_append.mp hx with hx | hx
    · obtain ⟨a, b1, b2, b3⟩ := a6 x hx
      have ne : x ≠ s := fun e => n (e ▸ hx)
      exact ⟨a, by rw [valV_put, if_neg (fun e => ne (Sum.inr.inj e))]; exact b1, b2, kp b2 b3⟩
    · have : x = s := by simpa using hx
      subst this
      exact ⟨l, by rw [valV_put, if_pos rfl], lc, kp lc hl⟩
section
variable {P : Program} {w : World} {K : PySem.W.Frag} {mg : Str → Option Value} {base : Heap} {ec : Nat → Addr} {CN CB CT CH cHE : Addr}
abbrev s__law_classes : Stmt := topS 44
abbrev N__law_classes : List Str := ["_law_texts", "_law_classes_here", "_law_number_here", "_law_text_here", "_law_start", "_law_stop", "_law_word", "_law_n", "_law_s"]
theorem sc__law_classes : FnScope ["_law_texts", "_law_classes_here", "_law_number_here", "_law_text_here", "_law_start", "_law_stop", "_law_word", "_law_n", "_law_s"] ["_law_texts"] (defScope s__law_classes) := ⟨rfl, rfl, rfl, by decide +kernel, rfl, by decide +kernel, by decide +kernel⟩
def sp__law_classes : Sp := fun vs H Q _ => ∃ (t : Addr) (ts : List (Int × Str)), vs = [.ref t] ∧ LT H t (ts.map hrow) ∧ GoodTs ts ∧ ∀ H' c, Same H H' → H c = none → CAt H' c ts (IsF ts) 16000 → Q (.ref c) H'
theorem ok__law_classes {f : Addr} {fd : FuncData} (F : Fun K "_law_classes" "_law_classes" s__law_classes f fd) (T : Txt mg) (h__law_places : HasF P w K mg base CX0 "_law_places" 1 ["_law_texts", "_law_word"] sp__law_places) : FnOk P w K mg base CX0 2 f fd ["_law_texts"] sp__law_classes := by
  refine F.ok sc__law_classes (fun vs H Q E h => ?_) (fun cdv A outer s H vs Q E hr h => ?_)
  · obtain ⟨t, ts, rfl, _⟩ := h
    rfl
  · obtain ⟨t, ts, rfl, hL, hG, hQ⟩ := h
    have hu := hu_of hr
    refine ⟨_, (pss_cons (ps_set (i := 1) sc__law_classes.nd rfl (Or.inl rfl) pe_dnewK)
      (pss_cons (ps_for PassesOwn.never rfl (pi_list (pv 0)) (pg_tup rfl (pgs_cons (pg_name (i := 2) sc__law_classes.nd rfl (Or.inl rfl)) (pgs_cons (pg_name (i := 3) sc__law_classes.nd rfl (Or.inl rfl)) pgs_nil)))
      (pss_one (ps_for PassesOwn.never rfl (pi_range1 rfl T.range (pa_cons (pe_op op_add (pe_callB call_len_str (by rfl) T.len (by decide +kernel) (pa_cons (pv 3) pa_nil)) pe_int) pa_nil)) (pg_name (i := 4) sc__law_classes.nd rfl (Or.inl rfl))
      (pss_one (ps_for PassesOwn.never rfl (pi_range2 rfl T.range (pa_cons (pv 4) (pa_cons (pe_op op_add (pe_callB call_len_str (by rfl) T.len (by decide +kernel) (pa_cons (pv 3) pa_nil)) pe_int) pa_nil))) (pg_name (i := 5) sc__law_classes.nd rfl (Or.inl rfl))
      (pss_cons (ps_set (i := 6) sc__law_classes.nd rfl (Or.inr rfl) (pe_slice sl_str (pv 3) (po_some (pv 4)) (po_some (pv 5))))
      (pss_one (ps_if (pt_not (pt_cmp (pc_din hu (pv 6) (pv 1))))
      (pss_one (ps_dput hu (pv 1) (pv 6) (pe_lc (own := [("_law_n", 7), ("_law_s", 8)]) (g := (gTup K 2 (gCons (gName 7) (gCons (gName 8) gNil)))) (tt := tYes) rfl sc__law_classes.nd (pi_list (pe_callG h__law_places (hr.mono (by decide)) p0 (pa_cons (pv 0) (pa_cons (pv 6) pa_nil)))) (blkOk_by (own := [("_law_n", 7), ("_law_s", 8)]) (N := N__law_classes) (sc := defScope s__law_classes) (by decide +kernel)) (fun _ _ _ _ _ => (pg_tup rfl (pgs_cons (pg_name (i := 7) sc__law_classes.nd rfl (Or.inl rfl)) (pgs_cons (pg_name (i := 8) sc__law_classes.nd rfl (Or.inl rfl)) pgs_nil)))) (fun _ _ _ _ _ => pts_nil) (fun _ _ _ _ _ => (pe_tup (pa_cons (pv 7) (pa_cons (pe_op op_add (pv 8) (pe_callB call_len_str (by rfl) T.len (by decide +kernel) (pa_cons (pv 6) pa_nil))) pa_nil))))) rfl))
      pss_nil))))))))
      (pss_one (ps_ret (pv 1))))), ?_⟩
    intro c hc
    have sc0 : Same H (upd H c (.dK [])) := same_upd hc
    refine ⟨_, rfl, t, rfl, ⟨_, SqL.of ((hL.same sc0).choose_spec.1)⟩, ?_⟩
    refine for_LT (K := K) hL (fun i σ H' => ∃ (v2 v3 v4 v5 v6 : Option V), σ = [some (.ref t), some (.ref c), v2, v3, v4, v5, v6, none, none] ∧ Same H H' ∧ CAt H' c ts (IsF (ts.take i)) (2000 * i)) ⟨none, none, none, none, none, rfl, sc0, ⟨[], [], upd_same, rfl, List.nodup_nil, fun s => ⟨fun h => (by cases h), fun ⟨t, ht, _⟩ => (by simp at ht)⟩, Nat.zero_le _, fun s h => by cases h⟩⟩ (fun i σ H' _ ⟨_, _, _, _, _, _, s, _⟩ => s) ?_ ?_
    · rintro i r p σ H1 hi hp ⟨v2, v3, v4, v5, v6, rfl, s1, c1⟩
      rw [List.getElem?_map] at hi
      obtain ⟨⟨n, y⟩, hny, rfl⟩ := Option.map_eq_some_iff.mp hi
      have yl : strLen y ≤ 40 := hG.len _ (List.mem_of_getElem? hny)
      have yl' : y.length = strLen y := rfl
      have hi8 : i < 8 := Nat.lt_of_lt_of_le (List.getElem?_eq_some_iff.mp hny).1 hG.most
      refine g2 hp ?_
      refine ⟨_, rfl, y, rfl, small (by omega), _, _, rfl, rfl, _, rfl, by omega, by omega, ?_⟩
      refine for_range (fun a σ H' => ∃ (v4 v5 v6 : Option V), σ = [some (.ref t), some (.ref c), some (.int n), some (.str y), v4, v5, v6, none, none] ∧ Same H H' ∧ CAt H' c ts (fun s => IsF (ts.take i) s ∨ ∃ a' b, a' < a ∧ a' ≤ b ∧ b ≤ strLen y ∧ s = cutw y a' b) (2000 * i + 42 * a)) ⟨_, _, _, rfl, s1, c1.imp (fun s => ⟨fun h => h.elim id fun ⟨a', b, h, _⟩ => absurd h (by omega), .inl⟩) (by omega)⟩ ?_ ?_
      · rintro a σ H2 ha ⟨v4, v5, v6, rfl, s2, c2⟩
        rw [Int.zero_add]
        have ha : a ≤ strLen y := by omega
        refine ⟨_, rfl, _, rfl, y, rfl, small (by omega), _, _, rfl, rfl, _, _, rfl, ⟨by omega, by omega, by omega, by omega⟩, ?_⟩
        refine for_range (fun k σ H' => ∃ (v5 v6 : Option V), σ = [some (.ref t), some (.ref c), some (.int n), some (.str y), some (.int (a : Nat)), v5, v6, none, none] ∧ Same H H' ∧ CAt H' c ts (fun s => (IsF (ts.take i) s ∨ ∃ a' b, a' < a ∧ a' ≤ b ∧ b ≤ strLen y ∧ s = cutw y a' b) ∨ ∃ b, a ≤ b ∧ b < a + k ∧ s = cutw y a b) (2000 * i + 42 * a + k)) ⟨_, _, rfl, s2, c2.imp (fun s => ⟨fun h => h.elim id fun ⟨b, h1, h2, _⟩ => absurd h2 (by omega), .inl⟩) (by omega)⟩ ?_ ?_
        · rintro k σ H3 hk ⟨v5, v6, rfl, s3, c3⟩
          have hk : a + k ≤ strLen y := by omega
          have ek : ((a : Nat) : Int) + (k : Nat) = ((a + k : Nat) : Int) := by omega
          rw [ek]
          refine ⟨_, rfl, _, rfl, _, rfl, _, rfl, _, rfl, y, rfl, small (by omega), ?_⟩
          dsimp only
          rw [cutS_nat]
          show gName 6 (.str (cutw y a (a + k))) _ _ _
          have wl : strLen (cutw y a (a + k)) ≤ 40 := Nat.le_trans (ltr_cut (hG.ltr _ (List.mem_of_getElem? hny)) a (a + k)).2 yl
          generalize hw : cutw y a (a + k) = wd at wl
          obtain ⟨kvs, ks, e1, e2, e3, e4, e5, e6⟩ := c3.ex
          refine ⟨_, rfl, _, rfl, c, _, rfl, .inl ⟨kvs, .inr wd, .inl e1, rfl, rfl⟩, _, rfl, ?_⟩
          have nxt : ∀ s, ((IsF (ts.take i) s ∨ ∃ a' b, a' < a ∧ a' ≤ b ∧ b ≤ strLen y ∧ s = cutw y a' b) ∨ ∃ b, a ≤ b ∧ b < a + (k + 1) ∧ s = cutw y a b) ↔ (((IsF (ts.take i) s ∨ ∃ a' b, a' < a ∧ a' ≤ b ∧ b ≤ strLen y ∧ s = cutw y a' b) ∨ ∃ b, a ≤ b ∧ b < a + k ∧ s = cutw y a b) ∨ s = wd) := fun s => by
            constructor
            · rintro (h | ⟨b, h1, h2, h3⟩)
              · exact .inl (.inl h)
              · by_cases e : b = a + k
                · exact .inr (by rw [h3, e, hw])
                · exact .inl (.inr ⟨b, h1, by omega, h3⟩)
            · rintro ((h | ⟨b, h1, h2, h3⟩) | h)
              · exact .inl h
              · exact .inr ⟨b, h1, by omega, h3⟩
              · exact .inr ⟨a + k, by omega, by omega, by rw [h, hw]⟩
          by_cases hin : wd ∈ ks
          · obtain ⟨l, b1, _⟩ := e6 wd hin
            rw [b1]
            refine if_neg_of (by simp) ⟨_, _, rfl, s3, c3.imp (fun s => (nxt s).trans ⟨fun h => h.elim id fun e => ?_, .inl⟩) (by omega)⟩
            rw [e]
            exact (e4 wd).mp hin
          · rw [key_none e2 hin]
            refine if_pos_of (by simp) ?_
            refine ⟨_, rfl, _, rfl, t, ts, wd, rfl, hL.same s3, by omega, fun t ht => Nat.le_trans (hG.len t ht) (by decide), hG.most, fun H4 l4 s4 f4 g4 => ⟨l4, rfl, ⟨_, SqL.of g4.choose_spec.1⟩, fun M hM => ?_⟩⟩
            have pl : (plc ts wd.cps.toList).length ≤ 8008 := by
              have h1 := plc_len (ts := ts) (v := wd.cps.toList) fun t ht => Nat.le_trans (hG.len t ht) (by decide)
              have := hG.most
              have h2 : 1001 * ts.length ≤ 1001 * 8 := Nat.mul_le_mul_left _ this
              omega
            refine lc_LT (K := K) (H0 := H4) g4 (fun j H' => Same H4 H' ∧ LT H' M (((plc ts wd.cps.toList).take j).map fun x => erow (x.1, x.2 + wd.cps.toList.length))) ⟨same_upd hM, by rw [List.take_zero]; exact LT.nil⟩ (fun j H' _ h => h.1) ?_ ?_
            · rintro j r q H' hj hq ⟨s5, g5⟩
              rw [List.getElem?_map] at hj
              obtain ⟨⟨n2, p2⟩, hnp, rfl⟩ := Option.map_eq_some_iff.mp hj
              have hjl : j < (plc ts wd.cps.toList).length := (List.getElem?_eq_some_iff.mp hnp).1
              refine g2 hq ⟨rfl, ⟨_, rfl, _, rfl, _, rfl, wd, rfl, small (by show strLen wd ≤ _; omega), _, _, rfl, rfl, (by show 2 ≤ sizeLine; decide), fun t2 ht2 => ?_⟩⟩
              have e7 : ((p2 : Nat) : Int) + ((wd.length : Nat) : Int) = ((p2 + wd.cps.toList.length : Nat) : Int) := by
                have : wd.length = wd.cps.toList.length := rfl
                omega
              dsimp only
              rw [e7]
              obtain ⟨acc, a1, a2, a3⟩ := (g5.same (same_upd (o := .tup (erow (n2, p2 + wd.cps.toList.length))) ht2)).app (p := t2) (r := erow (n2, p2 + wd.cps.toList.length)) upd_same
              refine ⟨acc, a1, smallLt (by rw [a2, List.length_map, List.length_take]; omega), same_wr (s5.trans (same_upd ht2)) hM, ?_⟩
              rw [take_snoc hnp, List.map_append]
              exact a3
            · rintro H5 ⟨s5, g5⟩
              rw [List.length_map, List.take_length] at g5
              have e8 : (plc ts wd.cps.toList).map (fun x => erow (x.1, x.2 + wd.cps.toList.length)) = (allOccs ts wd.cps.toList).map erow := by
                rw [← occs_back hG.asc, List.map_map]; rfl
              rw [e8] at g5
              obtain ⟨kvs', d1, d2, d3, d4⟩ := (c3.same (s4.trans s5)).put (fun h => hin ((e4 wd).mpr h)) g5
              refine ⟨_, rfl, _, rfl, c, _, rfl, .inl ⟨kvs', .inr wd, d1, rfl, smallLt (by omega), rfl⟩, ?_⟩
              exact ⟨_, _, rfl, same_wr (s3.trans (s4.trans s5)) hc, d4.imp nxt (by omega)⟩
        · rintro σ H3 ⟨v5, v6, rfl, s3, c3⟩
          refine ⟨_, _, _, rfl, s3, c3.imp (fun s => ?_) (by omega)⟩
          have e9 : a + (((y.length : Nat) : Int) + 1 - ((a : Nat) : Int)).toNat = strLen y + 1 := by omega
          rw [e9]
          constructor
          · rintro (h | ⟨a', b, h1, h2, h3, h4⟩)
            · exact .inl (.inl h)
            · by_cases e : a' = a
              · exact .inr ⟨b, by omega, by omega, by rw [h4, e]⟩
              · exact .inl (.inr ⟨a', b, by omega, h2, h3, h4⟩)
          · rintro ((h | ⟨a', b, h1, h2, h3, h4⟩) | ⟨b, h1, h2, h3⟩)
            · exact .inl h
            · exact .inr ⟨a', b, by omega, h2, h3, h4⟩
            · exact .inr ⟨a, b, by omega, h1, by omega, h3⟩
      · rintro σ H2 ⟨v4, v5, v6, rfl, s2, c2⟩
        refine ⟨_, _, _, _, _, rfl, s2, c2.imp (fun s => ?_) (by omega)⟩
        have e9 : (((y.length : Nat) : Int) + 1).toNat = strLen y + 1 := by omega
        rw [e9]
        unfold IsF
        rw [take_snoc hny]
        constructor
        · rintro ⟨t', ht', a', b, h1, h2, h3⟩
          rcases List.mem_append.mp ht' with ht' | ht'
          · exact .inl ⟨t', ht', a', b, h1, h2, h3⟩
          · have : t' = (n, y) := by simpa using ht'
            subst this
            have h2 : b ≤ strLen y := h2
            exact .inr ⟨a', b, by omega, h1, h2, h3⟩
        · rintro (⟨t', ht', h⟩ | ⟨a', b, h1, h2, h3, h4⟩)
          · exact ⟨t', List.mem_append_left _ ht', h⟩
          · exact ⟨(n, y), by simp, a', b, h2, h3, h4⟩
    · rintro σ H1 ⟨v2, v3, v4, v5, v6, rfl, s1, c1⟩
      rw [List.length_map, List.take_length] at c1
      have := hG.most
      exact ⟨_, rfl, hQ H1 c s1 hc (c1.imp (fun _ => Iff.rfl) (by omega))⟩
end
end Sfx
end
section
set_option Elab.async false
set_option linter.all false
set_option maxRecDepth 100000
set_option maxHeartbeats 4000000
namespace Sfx
open PySem PySem.Spec L2
theorem isF_fac {ts : List (Int × Str)} (h : ts ≠ []) {s : Str} : IsF ts s ↔ Fac (wds ts) s.cps.toList := by
  constructor
  · rintro ⟨t, ht, a, b, h1, h2, rfl⟩
    refine ⟨t.2.cps.toList, List.mem_cons_of_mem _ (List.mem_map.mpr ⟨t, ht, rfl⟩), b, h2, ?_⟩
    unfold cutw
    rw [toS_list]
    exact List.drop_suffix _ _
  · rintro ⟨x, hx, e, h1, h2⟩
    rcases List.mem_cons.mp hx with rfl | hx
    · have h3 : s.cps.toList = [] := by simpa using h2
      obtain ⟨t, ht⟩ := List.exists_mem_of_ne_nil _ h
      refine ⟨t, ht, 0, 0, Nat.le_refl _, Nat.zero_le _, ?_⟩
      have : toS s.cps.toList = toS [] := congrArg toS h3
      rw [toS_of] at this
      rw [this]; rfl
    · obtain ⟨t, ht, rfl⟩ := List.mem_map.mp hx
      have hl := h2.length_le
      rw [List.length_take] at hl
      refine ⟨t, ht, e - s.cps.toList.length, e, by omega, h1, ?_⟩
      have h3 := List.suffix_iff_eq_drop.mp h2
      have h4 : (t.2.cps.toList.take e).length = e := by rw [List.length_take]; have : e ≤ t.2.cps.toList.length := h1; omega
      rw [h4] at h3
      have := congrArg toS h3
      rw [toS_of] at this
      exact this
theorem app_sgn (z : Str) (c : Nat) : (z ++ sgn c).cps.toList = z.cps.toList ++ [c] := by
  show (z.cps ++ #[c]).toList = _
  simp
theorem fac_ltr {ts : List (Int × Str)} (h : LtrTs ts) {x : W} {c : Nat} (f : Fac (wds ts) (x ++ [c])) : c = 97 ∨ c = 98 ∨ c = 122 := by
  obtain ⟨t, ht, e, o⟩ := f
  have hc : c ∈ t := List.mem_of_mem_take (o.2.subset (by simp))
  rcases List.mem_cons.mp ht with rfl | ht
  · cases hc
  · obtain ⟨y, hy, rfl⟩ := List.mem_map.mp ht
    exact h y hy c hc
/-- the keys of a state's row, counted -/
theorem row_len {ts : List (Int × Str)} {L : List W} {z : Str} {v : W} {kvs : List (Key × V)} (hG : GoodTs ts) (D : DOk ts L v kvs) (hf : Fac (wds ts) z.cps.toList) (he : Ext (Can (wds ts)) z.cps.toList v) (f : Nat → Bool) (hfc : ∀ c, f c = true ↔ Fac (wds ts) (z.cps.toList ++ [c])) (N : IsNum (Can (wds ts)) L) :
    kvs.length = ([97, 98, 122].filter f).length + (ts.filter fun t => decide ((t.1, strLen t.2) ∈ allOccs ts z.cps.toList)).length ∧ (∀ c ∈ [97, 98, 122].filter f, (valV kvs (.inr (sgn c))).isSome = true) ∧
      ∀ t ∈ ts.filter (fun t => decide ((t.1, strLen t.2) ∈ allOccs ts z.cps.toList)), valV kvs (.inl t.1) = some (.int (L.length : Nat)) := by
  have G := good (D := wds ts) wds_ne
  have fv : ∀ c, Fac (wds ts) (v ++ [c]) ↔ f c = true := fun c => by
    rw [hfc]
    exact ⟨fun h => G.suf _ _ h (suf_concat he.2.1), fun h => G.c2F _ _ c hf he h⟩
  have mk : ∀ t ∈ ts, (t.1, strLen t.2) ∈ allOccs ts z.cps.toList ↔ v <:+ t.2.cps.toList := fun t ht => by
    rw [← allOccs_ext hG.asc hf he, mem_allOccs]
    constructor
    · rintro ⟨y, hy, h1, h2⟩
      have e1 := txt_of_mem (n := t.1) (z := t.2) hG.asc ht
      have e2 := txt_of_mem hG.asc hy
      rw [e1] at e2
      cases e2
      rwa [List.take_of_length_le (by exact Nat.le_refl _)] at h2
    · intro h
      exact ⟨t.2, ht, Nat.le_refl _, by rw [List.take_of_length_le (by exact Nat.le_refl _)]; exact h⟩
  have some1 : ∀ c, f c = true → (valV kvs (.inr (sgn c))).isSome = true := fun c hc => by
    have h := (fv c).mpr hc
    obtain ⟨y, hy⟩ := G.ex _ h
    obtain ⟨j, hj⟩ := List.getElem?_of_mem ((N.mem y).mpr hy.1)
    rw [D.c1 c j y h hy hj]; rfl
  refine ⟨?_, fun c hc => some1 c (List.mem_filter.mp hc).2, fun t ht => ?_⟩
  · have p : (kvs.map (·.1)).Perm (([97, 98, 122].filter f).map (fun c => (Sum.inr (sgn c) : Key)) ++ (ts.filter fun t => decide ((t.1, strLen t.2) ∈ allOccs ts z.cps.toList)).map fun t => (Sum.inl t.1 : Key)) := by
      refine perm_of_nodup D.nodup ?_ fun k => ?_
      · rw [List.nodup_append]
        refine ⟨?_, ?_, fun a ha b hb e => ?_⟩
        · rw [List.Nodup, List.pairwise_map]
          exact ((by decide : [97, 98, 122].Nodup).filter f).imp fun ne e => ne (sgn_inj (Sum.inr.inj e))
        · rw [List.Nodup, List.pairwise_map]
          exact (hG.asc.filter _).imp fun {a b} h e => by
            have := Sum.inl.inj e
            have h : a.1 < b.1 := h
            omega
        · obtain ⟨c, _, rfl⟩ := List.mem_map.mp ha
          obtain ⟨t, _, rfl⟩ := List.mem_map.mp hb
          cases e
      · rw [List.mem_append]
        constructor
        · intro hk
          cases k with
          | inr s =>
            have hs : (valV kvs (.inr s)).isSome = true := by
              cases q : valV kvs (.inr s) with
              | some u => rfl
              | none => exact absurd hk (valV_not q)
            obtain ⟨c, rfl, h⟩ := D.c2 s hs
            refine .inl (List.mem_map.mpr ⟨c, List.mem_filter.mpr ⟨?_, (fv c).mp h⟩, rfl⟩)
            rcases fac_ltr hG.ltr h with e | e | e <;> rw [e] <;> simp
          | inl n =>
            have hs : (valV kvs (.inl n)).isSome = true := by
              cases q : valV kvs (.inl n) with
              | some u => rfl
              | none => exact absurd hk (valV_not q)
            obtain ⟨y, hy, h⟩ := D.m2 n hs
            exact .inr (List.mem_map.mpr ⟨(n, y), List.mem_filter.mpr ⟨hy, decide_eq_true ((mk _ hy).mpr h)⟩, rfl⟩)
        · rintro (h | h)
          · obtain ⟨c, hc, rfl⟩ := List.mem_map.mp h
            obtain ⟨u, hu⟩ := Option.isSome_iff_exists.mp (some1 c (List.mem_filter.mp hc).2)
            exact valV_in hu
          · obtain ⟨t, ht, rfl⟩ := List.mem_map.mp h
            obtain ⟨h1, h2⟩ := List.mem_filter.mp ht
            exact valV_in (D.m1 t.1 t.2 h1 ((mk t h1).mp (of_decide_eq_true h2)))
    have := p.length_eq
    rw [List.length_map, List.length_append, List.length_map, List.length_map] at this
    exact this
  · obtain ⟨h1, h2⟩ := List.mem_filter.mp ht
    exact D.m1 t.1 t.2 h1 ((mk t h1).mp (of_decide_eq_true h2))
section
variable {P : Program} {w : World} {K : PySem.W.Frag} {mg : Str → Option Value} {base : Heap} {ec : Nat → Addr} {CN CB CT CH cHE : Addr}
abbrev s__law_edges : Stmt := topS 45
abbrev N__law_edges : List Str := ["_law_edges_here", "_law_state", "_law_classes_here", "_law_word", "_law_texts", "_law_letters", "_law_marks", "_law_letter", "_law_number_here", "_law_text_here"]
theorem sc__law_edges : FnScope ["_law_edges_here", "_law_state", "_law_classes_here", "_law_word", "_law_texts", "_law_letters", "_law_marks", "_law_letter", "_law_number_here", "_law_text_here"] ["_law_edges_here", "_law_state", "_law_classes_here", "_law_word", "_law_texts"] (defScope s__law_edges) := ⟨rfl, rfl, rfl, by decide +kernel, rfl, by decide +kernel, by decide +kernel⟩
def sp__law_edges : Sp := fun vs H Q _ => ∃ (l c t : Addr) (ts : List (Int × Str)) (L : List W) (z : Str) (v : W) (i N0 : Nat), vs = [.ref l, .int (i : Nat), .ref c, .str z, .ref t] ∧ MachAt H l ts L ∧ IsNum (Can (wds ts)) L ∧ LT H t (ts.map hrow) ∧ GoodTs ts ∧ ts ≠ [] ∧ CAt H c ts (IsF ts) N0 ∧ IsF ts z ∧ strLen z ≤ 40 ∧
  Ext (Can (wds ts)) z.cps.toList v ∧ L[i]? = some v ∧ ∀ H', Same H H' → Q (.bl true) H'
theorem ok__law_edges {f : Addr} {fd : FuncData} (F : Fun K "_law_edges" "_law_edges" s__law_edges f fd) (T : Txt mg) : FnOk P w K mg base CX0 1 f fd ["_law_edges_here", "_law_state", "_law_classes_here", "_law_word", "_law_texts"] sp__law_edges := by
  refine F.ok sc__law_edges (fun vs H Q E h => ?_) (fun cdv A outer s H vs Q E hr h => ?_)
  · obtain ⟨l, c, t, ts, L, z, v, i, N0, rfl, _⟩ := h
    rfl
  · obtain ⟨l, c, t, ts, L, z, v, i, N0, rfl, M, N, hL, hG, h0, hC, hz, zl, he, hi, hQ⟩ := h
    have hu := hu_of hr
    have hu65 : (A.deeper (PyProof.Rows.envOfC "_law_edges" (defScope s__law_edges) s.heap.objs.size f cdv)).units + 65 < cLine := by
      have := hr.un
      omega
    refine ⟨_, (pss_cons (ps_setLc (i := 5) (own := [("_law_letter", 7)]) (g := (gName 7)) rfl sc__law_edges.nd rfl rfl (sw_true rfl rfl rfl (by decide +kernel)) (pi_str pe_str) (blkOk_by (own := [("_law_letter", 7)]) (N := N__law_edges) (sc := defScope s__law_edges) (by decide +kernel)) (fun _ _ _ _ _ => (pg_name (i := 7) sc__law_edges.nd rfl (Or.inl rfl))) (fun _ _ _ _ _ => (pts_one (pt_cmp (pc_din (by exact hu) (pe_op op_add_str (pv 3) (pv 7)) (pv 2))))) (fun _ _ _ _ _ => (pv 7)))
      (pss_cons (ps_setLc (i := 6) (own := [("_law_number_here", 8), ("_law_text_here", 9)]) (g := (gTup K 2 (gCons (gName 8) (gCons (gName 9) gNil)))) rfl sc__law_edges.nd rfl rfl (sw_true rfl rfl rfl (by decide +kernel)) (pi_list (pv 4)) (blkOk_by (own := [("_law_number_here", 8), ("_law_text_here", 9)]) (N := N__law_edges) (sc := defScope s__law_edges) (by decide +kernel)) (fun _ _ _ _ _ => (pg_tup rfl (pgs_cons (pg_name (i := 8) sc__law_edges.nd rfl (Or.inl rfl)) (pgs_cons (pg_name (i := 9) sc__law_edges.nd rfl (Or.inl rfl)) pgs_nil)))) (fun _ _ _ _ _ => (pts_one (pt_cmpR (inD K hu65) (pe_tup (pa_cons (pv 8) (pa_cons (pe_callB call_len_str (by rfl) T.len (by decide +kernel) (pa_cons (pv 9) pa_nil)) pa_nil))) (pe_dget (by exact hu) (pv 2) (pv 3) (fun _ _ => rfl)) (by rfl)))) (fun _ _ _ _ _ => (pv 8)))
      (pss_cons (ps_if (pt_cmpR op_ne (pe_callB call_lenD (by rfl) T.len (by decide +kernel) (pa_cons (pe_ix (ixL K) (pv 0) (pv 1) (fun _ _ => rfl)) pa_nil)) (pe_op op_add (pe_callB (lenQ K) (by rfl) T.len (by decide +kernel) (pa_cons (pv 5) pa_nil)) (pe_callB (lenQ K) (by rfl) T.len (by decide +kernel) (pa_cons (pv 6) pa_nil))) (nomark _))
      (pss_one (ps_ret pe_bl))
      pss_nil)
      (pss_cons (ps_if (pt_not (pt_val (pe_callB (allK K) (by rfl) T.all (by decide +kernel) (pa_cons (pe_lc (own := [("_law_letter", 7)]) (g := (gName 7)) (tt := tYes) rfl sc__law_edges.nd (pi_list (pv 5)) (blkOk_by (own := [("_law_letter", 7)]) (N := N__law_edges) (sc := defScope s__law_edges) (by decide +kernel)) (fun _ _ _ _ _ => (pg_name (i := 7) sc__law_edges.nd rfl (Or.inl rfl))) (fun _ _ _ _ _ => pts_nil) (fun _ _ _ _ _ => (pe_cmp (pc_din (by exact hu) (pv 7) (pe_ix (ixL K) (pv 0) (pv 1) (fun _ _ => rfl)))))) pa_nil))))
      (pss_one (ps_ret pe_bl))
      pss_nil)
      (pss_one (ps_ret (pe_callB (allK K) (by rfl) T.all (by decide +kernel) (pa_cons (pe_lc (own := [("_law_number_here", 8)]) (g := (gName 8)) (tt := tYes) rfl sc__law_edges.nd (pi_list (pv 6)) (blkOk_by (own := [("_law_number_here", 8)]) (N := N__law_edges) (sc := defScope s__law_edges) (by decide +kernel)) (fun _ _ _ _ _ => (pg_name (i := 8) sc__law_edges.nd rfl (Or.inl rfl))) (fun _ _ _ _ _ => pts_nil) (fun _ _ _ _ _ => (pe_cmpR op_eq (pe_dget1 (by exact hu) (pe_ix (ixL K) (pv 0) (pv 1) (fun _ _ => rfl)) (pv 8) ⟨rfl, rfl, rfl, rfl⟩) (pe_op op_sub (pe_callB (lenQ K) (by rfl) T.len (by decide +kernel) (pa_cons (pv 0) pa_nil)) pe_int) (nomark _)))) pa_nil)))))))), ?_⟩
    obtain ⟨kvs, ks, e1, e2, e3, e4, e5, e6⟩ := hC.ex
    have hf := (isF_fac h0).mp hz
    have zl' : z.length = strLen z := rfl
    have habz : ("abz" : Str).cps.toList = [97, 98, 122] := by decide +kernel
    generalize hfL : (fun ch : Nat => (valV kvs (.inr (z ++ sgn ch))).isSome) = fL
    have fL_iff : ∀ ch, fL ch = true ↔ Fac (wds ts) (z.cps.toList ++ [ch]) := fun ch => by
      have h1 : fL ch = (valV kvs (.inr (z ++ sgn ch))).isSome := by rw [← hfL]
      rw [h1, ← app_sgn, ← isF_fac h0, ← e4]
      constructor
      · intro h
        obtain ⟨u, hu⟩ := Option.isSome_iff_exists.mp h
        have := valV_in hu
        rw [e2, List.mem_map] at this
        obtain ⟨x, hx, e⟩ := this
        exact Sum.inr.inj e ▸ hx
      · intro h
        obtain ⟨a, h1, _⟩ := e6 _ h
        rw [h1]; rfl
    refine ⟨_, rfl, fun D hD => ?_⟩
    refine lc_str (fun i H' => Same H H' ∧ H' D = some (.lst (((([97, 98, 122].take i).filter fL)).map fun ch => V.str (sgn ch)))) ⟨same_upd hD, upd_same⟩ ?_ ?_
    · rintro j ch H' hch ⟨s1, g1⟩
      rw [habz] at hch
      have hj : j < 3 := (List.getElem?_eq_some_iff.mp hch).1
      refine ⟨rfl, ⟨_, rfl, _, rfl, _, _, rfl, rfl, small (by show strLen z + 1 ≤ _; omega), _, rfl, c, _, rfl, .inl ⟨kvs, .inr (z ++ sgn ch), .inl (s1 _ _ e1), rfl, rfl⟩, _, rfl, ?_⟩⟩
      have h1 : (valV kvs (.inr (z ++ sgn ch))).isSome = fL ch := by rw [← hfL]
      by_cases q : fL ch = true
      · refine if_pos_of (h1.trans q) ?_
        refine ⟨_, rfl, _, g1, smallLt (by rw [List.length_map]; have := List.length_filter_le fL ([97, 98, 122].take j); rw [List.length_take] at this; omega), same_wr s1 hD, ?_⟩
        rw [upd_same, take_snoc hch, List.filter_append, List.filter_cons, if_pos q, List.filter_nil, List.map_append]
        rfl
      · refine if_neg_of (fun z => q (h1.symm.trans z)) ⟨s1, ?_⟩
        rw [take_snoc hch, List.filter_append, List.filter_cons, if_neg q, List.filter_nil, List.append_nil]
        exact g1
    rintro H1 ⟨s1, g1⟩
    have el : ("abz" : Str).cps.toList.length = 3 := by rw [habz]; rfl
    rw [el] at g1
    have g1 : H1 D = some (.lst (([97, 98, 122].filter fL).map fun ch => V.str (sgn ch))) := g1
    -- the marks
    refine ⟨_, rfl, t, rfl, ⟨_, SqL.of ((hL.same s1).choose_spec.1)⟩, fun D2 hD2 => ?_⟩
    have ser : ∀ r ∈ (allOccs ts z.cps.toList).map erow, simp1 r := simp_map fun e _ => simp_erow e
    obtain ⟨a0, b1, b2, b3⟩ := e6 z ((e4 z).mpr hz)
    refine lc_LT (K := K) (H0 := H1) (hL.same s1) (fun j H' => Same H1 H' ∧ H' D2 = some (.lst (((ts.take j).filter fun t => decide ((t.1, strLen t.2) ∈ allOccs ts z.cps.toList)).map fun t => V.int t.1))) ⟨same_upd hD2, upd_same⟩ (fun j H' _ h => h.1) ?_ ?_
    · rintro j r p H' hj hp ⟨s2, g2'⟩
      rw [List.getElem?_map] at hj
      obtain ⟨⟨n, y⟩, hny, rfl⟩ := Option.map_eq_some_iff.mp hj
      have hjl : j < ts.length := (List.getElem?_eq_some_iff.mp hny).1
      have h8 := hG.most
      have yl : strLen y ≤ 40 := hG.len _ (List.mem_of_getElem? hny)
      have yl' : y.length = strLen y := rfl
      refine g2 hp ⟨rfl, ⟨_, rfl, _, rfl, y, rfl, small (by omega), (by show 2 ≤ sizeLine; decide), fun t2 ht2 => ?_⟩⟩
      have s3 : Same H' (upd H' t2 (.tup (erow (n, strLen y)))) := same_upd ht2
      have s03 := (s1.trans s2).trans s3
      refine ⟨_, rfl, _, rfl, c, .ref a0, rfl, .inl ⟨kvs, .inr z, .inl (s03 _ _ e1), rfl, b1.symm⟩, ?_⟩
      refine ⟨dRow (erow (n, strLen y)), _, dp_row upd_same (simp_erow _), dp_rows (b3.same s03) ser, shaped_dRow (simp_erow _), shaped_rows ser, ?_⟩
      rw [any_rows ser (simp_erow _)]
      refine ⟨_, rfl, ?_⟩
      have em : erow (n, strLen y) ∈ (allOccs ts z.cps.toList).map erow ↔ (n, strLen y) ∈ allOccs ts z.cps.toList := by
        rw [List.mem_map]
        exact ⟨fun ⟨x, hx, e⟩ => erow_inj e ▸ hx, fun h => ⟨_, h, rfl⟩⟩
      have g3 := s3 _ _ g2'
      by_cases q : (n, strLen y) ∈ allOccs ts z.cps.toList
      · refine if_pos_of (decide_eq_true (em.mpr q)) ?_
        refine ⟨_, rfl, _, g3, smallLt (by rw [List.length_map]; have := List.length_filter_le (fun t : Int × Str => decide ((t.1, strLen t.2) ∈ allOccs ts z.cps.toList)) (ts.take j); rw [List.length_take] at this; omega), same_wr (s2.trans s3) hD2, ?_⟩
        rw [upd_same, take_snoc hny, List.filter_append, List.filter_cons, if_pos (decide_eq_true q), List.filter_nil, List.map_append]
        rfl
      · refine if_neg_of (fun h => q (em.mp (of_decide_eq_true h))) ⟨s2.trans s3, ?_⟩
        rw [take_snoc hny, List.filter_append, List.filter_cons, if_neg (fun h => q (of_decide_eq_true h)), List.filter_nil, List.append_nil]
        exact g3
    rintro H2 ⟨s2, g2'⟩
    rw [List.length_map, List.take_length] at g2'
    have s12 := s1.trans s2
    have gD := s2 _ _ g1
    obtain ⟨es, m1, m2, m3, m4⟩ := (M.same s12).ex
    obtain ⟨ed, row, r1, r2, r3⟩ := m3 i v hi
    obtain ⟨l1, l2, l3⟩ := row_len hG r3 hf he fL fL_iff N
    generalize hlt : [97, 98, 122].filter fL = lets at g1 gD l1 l2
    generalize hmk : ts.filter (fun t => decide ((t.1, strLen t.2) ∈ allOccs ts z.cps.toList)) = mks at g2' l1 l3
    refine ⟨_, rfl, _, rfl, l, _, _, _, rfl, rfl, SqL.of m1, atI_ref (i := i) (by omega) r1, ed, row, rfl, r2, _, rfl, D, _, rfl, .inl (SqL.of gD), _, rfl, D2, _, rfl, .inl (SqL.of g2'), _, _, rfl, rfl, rfl, _, rfl, if_neg_of (by rw [List.length_map, List.length_map, l1]; simp) ?_⟩
    have lets3 : lets.length ≤ 3 := by
      rw [← hlt]
      exact List.length_filter_le fL [97, 98, 122]
    have mks8 : mks.length ≤ 8 := by
      rw [← hmk]
      exact Nat.le_trans (List.length_filter_le _ _) hG.most
    have allT : ∀ n, (List.replicate n true).all id = true := fun n => by simp
    refine ⟨_, rfl, D, rfl, ⟨_, SqL.of gD⟩, fun D3 hD3 => ?_⟩
    refine lc_list (K := K) (a := D) (xs := lets.map fun ch => V.str (sgn ch)) (fun j H' => Same H2 H' ∧ H' D3 = some (.lst ((List.replicate j true).map V.bl))) ⟨same_upd hD3, upd_same⟩ (fun j H' _ h => SqL.of (h.1 _ _ gD)) ?_ ?_
    · rintro j x H' hx ⟨s3, g3⟩
      rw [List.getElem?_map] at hx
      obtain ⟨ch, hch, rfl⟩ := Option.map_eq_some_iff.mp hx
      have hj : j < lets.length := (List.getElem?_eq_some_iff.mp hch).1
      have h1 := l2 ch (List.mem_of_getElem? hch)
      refine ⟨rfl, ⟨_, rfl, _, rfl, _, rfl, l, _, _, _, rfl, rfl, SqL.of (s3 _ _ m1), atI_ref (i := i) (by omega) r1, ed, _, rfl, .inl ⟨row, .inr (sgn ch), .inl (s3 _ _ r2), rfl, rfl⟩, _, g3, smallLt (by rw [List.length_map, List.length_replicate]; omega), same_wr s3 hD3, ?_⟩⟩
      rw [upd_same, h1, List.replicate_succ', List.map_append]
      rfl
    rintro H3 ⟨s3, g3⟩
    refine ⟨D3, _, rfl, SqL.of g3, _, rfl, if_neg_of (by rw [allT]; simp) ?_⟩
    refine ⟨_, rfl, D2, rfl, ⟨_, SqL.of (s3 _ _ g2')⟩, fun D4 hD4 => ?_⟩
    refine lc_list (K := K) (a := D2) (xs := mks.map fun t => V.int t.1) (fun j H' => Same H3 H' ∧ H' D4 = some (.lst ((List.replicate j true).map V.bl))) ⟨same_upd hD4, upd_same⟩ (fun j H' _ h => SqL.of (h.1 _ _ (s3 _ _ g2'))) ?_ ?_
    · rintro j x H' hx ⟨s4, g4⟩
      rw [List.getElem?_map] at hx
      obtain ⟨⟨n, y⟩, hny, rfl⟩ := Option.map_eq_some_iff.mp hx
      have hj : j < mks.length := (List.getElem?_eq_some_iff.mp hny).1
      have h1 := l3 (n, y) (List.mem_of_getElem? hny)
      have s34 := s3.trans s4
      have m1' := s34 _ _ m1
      have r2' := s34 _ _ r2
      refine ⟨rfl, ⟨_, rfl, _, rfl, l, _, _, _, rfl, rfl, SqL.of m1', atI_ref (i := i) (by omega) r1, ed, rfl, .inl ⟨_, .inl r2'⟩, _, rfl, _, .inl ⟨row, .inl n, .inl r2', rfl, rfl⟩, ?_⟩⟩
      rw [h1]
      refine ⟨_, rfl, l, _, rfl, .inl (SqL.of m1'), _, _, rfl, rfl, rfl, _, g4, smallLt (by rw [List.length_map, List.length_replicate]; omega), same_wr s4 hD4, ?_⟩
      have e9 : decide (((some (V.int (L.length : Nat))).getD .non) = V.int (((es.map V.ref).length : Nat) - 1)) = true := by
        rw [List.length_map, m2, if_neg h0]
        refine decide_eq_true ?_
        show V.int _ = V.int _
        exact congrArg V.int (by omega)
      rw [upd_same, List.replicate_succ', List.map_append]
      exact congrArg (fun b => some (HO.lst ((List.replicate j true).map V.bl ++ [V.bl b]))) e9
    · rintro H4 ⟨s4, g4⟩
      refine ⟨D4, _, rfl, SqL.of g4, ?_⟩
      rw [allT]
      exact hQ H4 (s12.trans (s3.trans s4))
end
end Sfx
end
section
set_option Elab.async false
set_option linter.all false
set_option maxRecDepth 100000
set_option maxHeartbeats 4000000
namespace Sfx
open PySem PySem.Spec L2
theorem goes_of_occs {ts : List (Int × Str)} (hG : GoodTs ts) (h0 : ts ≠ []) {v u : W} (h : allOccs ts v = allOccs ts u) : Goes (wds ts) v u := by
  intro t ht e o
  rcases List.mem_cons.mp ht with rfl | ht
  · obtain ⟨o1, o2⟩ := o
    have e0 : e = 0 := by simpa using o1
    subst e0
    have v0 : v = [] := by simpa using o2
    subst v0
    obtain ⟨t, ht⟩ := List.exists_mem_of_ne_nil _ h0
    have h1 : (t.1, 0) ∈ allOccs ts ([] : W) := mem_allOccs.mpr ⟨t.2, ht, Nat.zero_le _, by simp⟩
    rw [h] at h1
    obtain ⟨y, _, _, h3⟩ := mem_allOccs.mp h1
    have : u = [] := by simpa using h3
    subst this
    exact ⟨Nat.zero_le _, by simp⟩
  · obtain ⟨⟨n, y⟩, hy, rfl⟩ := List.mem_map.mp ht
    have h1 : (n, e) ∈ allOccs ts v := mem_allOccs.mpr ⟨y, hy, o.1, o.2⟩
    rw [h] at h1
    obtain ⟨y2, hy2, h2, h3⟩ := mem_allOccs.mp h1
    have e1 := txt_of_mem (n := n) (z := y) hG.asc hy
    have e2 := txt_of_mem hG.asc hy2
    rw [e1] at e2
    cases e2
    exact ⟨h2, h3⟩
theorem can_occs {ts : List (Int × Str)} (hG : GoodTs ts) (h0 : ts ≠ []) {v u : W} (hv : Can (wds ts) v) (hu : Can (wds ts) u) (h : allOccs ts v = allOccs ts u) : v = u := by
  have h1 := goes_ext wds_ne (goes_of_occs hG h0 h) hv (List.suffix_refl _)
  have h2 := goes_ext wds_ne (goes_of_occs hG h0 h.symm) hu (List.suffix_refl _)
  exact List.Sublist.eq_of_length_le h2.sublist h1.length_le
theorem occs_ok {ts : List (Int × Str)} (hG : GoodTs ts) {v : W} : ∀ x ∈ allOccs ts v, okP x := fun ⟨n, e⟩ hx => by
  obtain ⟨z, h1, h2, _⟩ := mem_allOccs.mp hx
  have a := hG.num _ h1
  have b := hG.len _ h1
  have a1 : 0 ≤ n := a.1
  have a2 : n ≤ 99 := a.2
  have b1 : strLen z ≤ 40 := b
  refine ⟨a1, ?_, ?_⟩
  · show n < 100
    omega
  · show e < 100
    omega
theorem occsN {ts : List (Int × Str)} (hG : GoodTs ts) (v : W) : (allOccs ts v).length ≤ 8008 := by
  have h1 := plc_len (ts := ts) (v := v) fun t ht => Nat.le_trans (hG.len t ht) (by decide)
  have := hG.most
  have h2 : 1001 * ts.length ≤ 1001 * 8 := Nat.mul_le_mul_left _ this
  have h3 := congrArg List.length (plc_of hG.asc (v := v))
  rw [List.length_map] at h3
  omega
theorem dg_len : ∀ i : Fin 100, (Dg (i.val : Nat)).length ≤ 2 := by decide +kernel
theorem dg_le {i : Int} (h1 : 0 ≤ i) (h2 : i < 100) : (Dg i).length ≤ 2 := by
  have a := dg_len ⟨i.toNat, by omega⟩
  have ei : ((i.toNat : Nat) : Int) = i := by omega
  simp only [ei] at a
  exact a
theorem pcs_len {x : Int × Nat} (h : okP x) : (pcs x).length ≤ 8 := by
  have a := dg_le h.1 h.2.1
  have b := dg_le (i := (x.2 : Nat)) (by omega) (by have := h.2.2; omega)
  unfold pcs
  simp
  omega
theorem tl_len : ∀ {l : List (Int × Nat)}, (∀ x ∈ l, okP x) → (tl l).length ≤ 1 + 10 * l.length
  | [], _ => by simp [tl]
  | x :: r, h => by
    have a := pcs_len (h x List.mem_cons_self)
    have b := tl_len (l := r) fun y hy => h y (List.mem_cons_of_mem _ hy)
    simp [tl]
    omega
theorem repS_len {l : List (Int × Nat)} (h : ∀ x ∈ l, okP x) : (repS l).length ≤ 2 + 10 * l.length := by
  have e : (repS l).length = (enc l).length := by
    have := congrArg List.length (shown_list l)
    rw [← this]
    show (repS l).cps.size = _
    rw [← Array.length_toList]
    rfl
  rw [e]
  cases l with
  | nil => simp [enc]
  | cons x r =>
    have a := pcs_len (h x List.mem_cons_self)
    have b := tl_len (l := r) fun y hy => h y (List.mem_cons_of_mem _ hy)
    simp [enc]
    omega
def tlD (l : List (Int × Nat)) : PyData := .list ((l.map erow).map dRow)
theorem small_log {i : Int} (h1 : 0 ≤ i) (h2 : i < 100) : decide (i.natAbs.log2 < 1920) = true := decide_eq_true (Nat.lt_of_le_of_lt (Nat.log2_le_self _) (by omega))
theorem tlD_facts {l : List (Int × Nat)} (hl : ∀ x ∈ l, okP x) : (tlD l).showable = true ∧ (tlD l).hasDict = false ∧ (tlD l).depth ≤ 64 := by
  have a : ∀ l : List (Int × Nat), (∀ x ∈ l, okP x) → PyData.showableAll ((l.map erow).map dRow) = true ∧ PyData.hasDictAll ((l.map erow).map dRow) = false := fun l hl => by
    induction l with
    | nil => exact ⟨rfl, rfl⟩
    | cons x r ih =>
      have ih := ih fun y hy => hl y (List.mem_cons_of_mem _ hy)
      have o := hl x List.mem_cons_self
      have e1 := small_log o.1 o.2.1
      have e2 := small_log (i := (x.2 : Nat)) (by omega) (by have := o.2.2; omega)
      simp only [List.map_cons, PyData.showableAll, PyData.hasDictAll, ih.1, ih.2, dRow, erow, dV, PyData.showable, PyData.hasDict, List.map_nil, e1, e2, PyData.showableAll, PyData.hasDictAll]
      exact ⟨rfl, rfl⟩
  refine ⟨by unfold tlD; simp only [PyData.showable]; exact (a l hl).1, by unfold tlD; simp only [PyData.hasDict]; exact (a l hl).2, ?_⟩
  have h := depth_all (xs := l.map erow) (f := dRow) (n := 1) fun v hv => by
    obtain ⟨x, _, rfl⟩ := List.mem_map.mp hv
    exact (lay_dRow (simp_erow x)).2
  unfold tlD
  simp only [PyData.depth]
  omega
theorem keys_putK_old {kvs : List (Key × V)} {k : Key} {u v : V} (h : valV kvs k = some u) : (putK kvs k v).map (·.1) = kvs.map (·.1) := by
  unfold putK
  rw [valV_any, h, if_pos (show (some u).isSome = true from rfl), List.map_map]
  refine List.map_congr_left fun p _ => ?_
  show (if p.1 = k then (p.1, v) else p).1 = p.1
  split <;> rfl
/-- the dict of the classes seen so far -/
structure Seen (ts : List (Int × Str)) (L : List W) (ws : List Str) (svs : List (Key × V)) : Prop where
  ex : ∃ sks : List Str, svs.map (·.1) = sks.map Sum.inr ∧ sks.Nodup ∧ (∀ k ∈ sks, ∃ (j : Nat) (v : W), L[j]? = some v ∧ k = repS (allOccs ts v) ∧ valV svs (.inr k) = some (.int (j : Nat))) ∧ ∀ s ∈ ws, repS (allOccs ts s.cps.toList) ∈ sks
theorem seen_nil {ts : List (Int × Str)} {L : List W} : Seen ts L [] [] := ⟨[], rfl, List.nodup_nil, fun k h => (by cases h), fun s h => (by cases h)⟩
section
variable {ts : List (Int × Str)} {L : List W} (hG : GoodTs ts) (h0 : ts ≠ []) (N : IsNum (Can (wds ts)) L)
include hG h0 N
theorem num_inj {i j : Nat} {v u : W} (hi : L[i]? = some v) (hj : L[j]? = some u) (h : repS (allOccs ts v) = repS (allOccs ts u)) : i = j := by
  have e := can_occs hG h0 ((N.mem v).mp (List.mem_of_getElem? hi)) ((N.mem u).mp (List.mem_of_getElem? hj)) (repS_inj (occs_ok hG) (occs_ok hG) h)
  subst e
  have li := (List.getElem?_eq_some_iff.mp hi).1
  exact (List.getElem?_inj li N.nodup).mp (hi.trans hj.symm)
/-- a class met again has the state it had -/
theorem seen_val {ws : List Str} {svs : List (Key × V)} (S : Seen ts L ws svs) {s : Str} {v : W} {j : Nat} (hf : Fac (wds ts) s.cps.toList) (he : Ext (Can (wds ts)) s.cps.toList v) (hj : L[j]? = some v) :
    valV svs (.inr (repS (allOccs ts s.cps.toList))) = none ∨ valV svs (.inr (repS (allOccs ts s.cps.toList))) = some (.int (j : Nat)) := by
  obtain ⟨sks, a1, a2, a3, a4⟩ := S.ex
  by_cases q : repS (allOccs ts s.cps.toList) ∈ sks
  · obtain ⟨i, u, b1, b2, b3⟩ := a3 _ q
    rw [← allOccs_ext hG.asc hf he] at b2 b3 ⊢
    have := num_inj hG h0 N hj b1 b2
    subst this
    exact .inr b3
  · exact .inl (key_none a1 q)
theorem seen_put {ws : List Str} {svs : List (Key × V)} (S : Seen ts L ws svs) {s : Str} {v : W} {j : Nat} (hf : Fac (wds ts) s.cps.toList) (he : Ext (Can (wds ts)) s.cps.toList v) (hj : L[j]? = some v) :
    Seen ts L (ws ++ [s]) (putK svs (.inr (repS (allOccs ts s.cps.toList))) (.int (j : Nat))) := by
  have q := seen_val hG h0 N S hf he hj
  obtain ⟨sks, a1, a2, a3, a4⟩ := S.ex
  have kk : ∀ k ∈ sks ++ [repS (allOccs ts s.cps.toList)], ∃ (i : Nat) (u : W), L[i]? = some u ∧ k = repS (allOccs ts u) ∧ valV (putK svs (.inr (repS (allOccs ts s.cps.toList))) (.int (j : Nat))) (.inr k) = some (.int (i : Nat)) := fun k hk => by
    by_cases e : k = repS (allOccs ts s.cps.toList)
    · exact ⟨j, v, hj, by rw [e, allOccs_ext hG.asc hf he], by rw [e, valV_put, if_pos rfl]⟩
    · have hk : k ∈ sks := by
        rcases List.mem_append.mp hk with h | h
        · exact h
        · exact absurd (by simpa using h) e
      obtain ⟨i, u, b1, b2, b3⟩ := a3 k hk
      exact ⟨i, u, b1, b2, by rw [valV_put, if_neg (fun z => e (Sum.inr.inj z))]; exact b3⟩
  rcases q with q | q
  · have hn : repS (allOccs ts s.cps.toList) ∉ sks := fun h => by
      obtain ⟨_, _, _, _, b3⟩ := a3 _ h
      rw [q] at b3; cases b3
    refine ⟨sks ++ [repS (allOccs ts s.cps.toList)], by rw [putK_new _ q, List.map_append, List.map_append, a1]; rfl, ?_, kk, fun x hx => ?_⟩
    · rw [List.nodup_append]
      refine ⟨a2, by simp, fun x hx y hy e => hn ?_⟩
      have : y = repS (allOccs ts s.cps.toList) := by simpa using hy
      rw [← this, ← e]; exact hx
    · rcases List.mem_append.mp hx with hx | hx
      · exact List.mem_append_left _ (a4 x hx)
      · have : x = s := by simpa using hx
        rw [this]; simp
  · have hy : repS (allOccs ts s.cps.toList) ∈ sks := by
      have := valV_in q
      rw [a1, List.mem_map] at this
      obtain ⟨x, hx, e⟩ := this
      exact Sum.inr.inj e ▸ hx
    refine ⟨sks, ?_, a2, fun k hk => kk k (List.mem_append_left _ hk), fun x hx => ?_⟩
    · rw [← a1, keys_putK_old q]
    · rcases List.mem_append.mp hx with hx | hx
      · exact a4 x hx
      · have : x = s := by simpa using hx
        rw [this]; exact hy
theorem seen_end {ws : List Str} {svs : List (Key × V)} (S : Seen ts L ws svs) (all : ∀ s, IsF ts s → s ∈ ws) :
    svs.length = L.length ∧ ∃ sks : List Str, svs.map (·.1) = sks.map Sum.inr ∧ ∀ ys : List Str, ys.Perm sks → ∃ ns : List Int, ns.length = L.length ∧ ns.Nodup ∧ ∀ (i : Nat) (k : Str), ys[i]? = some k → ∃ n, ns[i]? = some n ∧ valV svs (.inr k) = some (.int n) := by
  obtain ⟨sks, a1, a2, a3, a4⟩ := S.ex
  have G := good (D := wds ts) wds_ne
  have p : sks.Perm (L.map fun v => repS (allOccs ts v)) := by
    refine perm_of_nodup a2 ?_ fun k => ⟨fun hk => ?_, fun hk => ?_⟩
    · rw [List.Nodup, List.pairwise_map]
      have := N.nodup
      refine List.Pairwise.imp_of_mem (fun {a b} ha hb ne e => ne ?_) this
      exact can_occs hG h0 ((N.mem a).mp ha) ((N.mem b).mp hb) (repS_inj (occs_ok hG) (occs_ok hG) e)
    · obtain ⟨j, v, b1, b2, _⟩ := a3 k hk
      rw [b2]
      exact List.mem_map.mpr ⟨v, List.mem_of_getElem? b1, rfl⟩
    · obtain ⟨v, hv, rfl⟩ := List.mem_map.mp hk
      have hf := G.fac _ ((N.mem v).mp hv)
      have := a4 (toS v) (all _ ((isF_fac h0).mpr (by rw [toS_list]; exact hf)))
      rw [toS_list] at this
      exact this
  have el : svs.length = sks.length := by
    have := congrArg List.length a1
    rw [List.length_map, List.length_map] at this
    exact this
  have el2 : sks.length = L.length := by rw [p.length_eq, List.length_map]
  refine ⟨el.trans el2, sks, a1, fun ys hy => ⟨ys.map fun k => match valV svs (.inr k) with | some (.int n) => n | _ => 0, ?_, ?_, fun i k hi => ?_⟩⟩
  · rw [List.length_map, hy.length_eq, el2]
  · rw [List.Nodup, List.pairwise_map]
    refine List.Pairwise.imp_of_mem (fun {a b} ha hb ne e => ne ?_) (hy.nodup_iff.mpr a2)
    obtain ⟨i, u, b1, b2, b3⟩ := a3 a (hy.mem_iff.mp ha)
    obtain ⟨j, v, c1, c2, c3⟩ := a3 b (hy.mem_iff.mp hb)
    rw [b3, c3] at e
    have e : ((i : Nat) : Int) = ((j : Nat) : Int) := e
    have : i = j := by omega
    subst this
    rw [b1] at c1
    cases c1
    rw [b2, c2]
  · obtain ⟨j, u, b1, b2, b3⟩ := a3 k (hy.mem_iff.mp (List.mem_of_getElem? hi))
    exact ⟨(j : Nat), by rw [List.getElem?_map, hi, Option.map_some, b3], b3⟩
end
end Sfx
end
section
set_option Elab.async false
set_option linter.all false
set_option maxRecDepth 100000
set_option maxHeartbeats 4000000
namespace Sfx
open PySem PySem.Spec L2
def rIsList (K : PySem.W.Frag) : List V → Hp → VK → Prop := fun xs H Q => ∃ (a : Addr) (vs : List V), xs = [.ref a, .ty "list"] ∧ SqL K H a vs ∧ Q (.bl true) H
theorem call_isTy {X : Cx} : CallR X (.builtin "isinstance") (rIsList X.K) := by
  intro pins s σ H xs us Q I r h
  obtain ⟨a, vs, rfl, hs, q⟩ := h
  cases r with
  | cons rx rr =>
    cases rr with
    | cons rt rr =>
      cases rr
      cases rx
      cases rt
      obtain ⟨its, o, n, _, ho, hc, _⟩ := sqL_at I.hok I.kIn hs
      exact IsiPair.list_list ho hc ⟨.bl true, H, I, rfl, q⟩
theorem fac_nilW {v : W} (h : Fac (wds []) v) : v = [] := by
  obtain ⟨t, ht, e, o⟩ := h
  have : t = [] := by simpa [wds] using ht
  subst this
  simpa using o.2
theorem num_nil {L : List W} (N : IsNum (Can (wds [])) L) : L = [[]] := by
  have z := num_zero N
  have all : ∀ v ∈ L, v = [] := fun v hv => fac_nilW ((good wds_ne).fac _ ((N.mem v).mp hv))
  cases L with
  | nil => cases z
  | cons a r =>
    have ha : a = [] := all a (by simp)
    subst ha
    cases r with
    | nil => rfl
    | cons b r =>
      have hb : b = [] := all b (by simp)
      subst hb
      have := N.nodup
      simp at this
theorem row_nil {L : List W} {kvs : List (Key × V)} (D : DOk [] L [] kvs) : kvs = [] := by
  cases kvs with
  | nil => rfl
  | cons p r =>
    cases q : valV (p :: r) p.1 with
    | none => exact absurd (List.mem_map_of_mem (f := (·.1)) (List.mem_cons_self (a := p) (l := r))) (valV_not q)
    | some u =>
      obtain ⟨k, y⟩ := p
      cases k with
      | inl n =>
        obtain ⟨z, hz, _⟩ := D.m2 n (by rw [q]; rfl)
        cases hz
      | inr s =>
        obtain ⟨c, _, h⟩ := D.c2 s (by rw [q]; rfl)
        exact absurd (fac_nilW h) (by simp)
section
variable {P : Program} {w : World} {K : PySem.W.Frag} {mg : Str → Option Value} {base : Heap} {ec : Nat → Addr} {CN CB CT CH cHE : Addr}
abbrev s__law_machine : Stmt := topS 46
abbrev N__law_machine : List Str := ["_law_edges_here", "_law_texts", "_law_classes_here", "_law_seen", "_law_word", "_law_state", "_law_key"]
theorem sc__law_machine : FnScope ["_law_edges_here", "_law_texts", "_law_classes_here", "_law_seen", "_law_word", "_law_state", "_law_key"] ["_law_edges_here", "_law_texts"] (defScope s__law_machine) := ⟨rfl, rfl, rfl, by decide +kernel, rfl, by decide +kernel, by decide +kernel⟩
def sp__law_machine : Sp := fun vs H Q _ => ∃ (l t : Addr) (ts : List (Int × Str)) (L : List W), vs = [.ref l, .ref t] ∧ MachAt H l ts L ∧ IsNum (Can (wds ts)) L ∧ LT H t (ts.map hrow) ∧ GoodTs ts ∧ ∀ H', Same H H' → Q (.bl true) H'
theorem ok__law_machine {f : Addr} {fd : FuncData} (F : Fun K "_law_machine" "_law_machine" s__law_machine f fd) (T : Txt mg)
    (h__law_classes : HasF P w K mg base CX0 "_law_classes" 2 ["_law_texts"] sp__law_classes)
    (h_state_of : HasF P w K mg base CX0 "state_of" 1 ["edges", "word"] sp_state_of)
    (h__law_edges : HasF P w K mg base CX0 "_law_edges" 1 ["_law_edges_here", "_law_state", "_law_classes_here", "_law_word", "_law_texts"] sp__law_edges) : FnOkG P w K mg base 3 f fd ["_law_edges_here", "_law_texts"] sp__law_machine := by
  refine okG F sc__law_machine (fun vs H Q E h => ?_) (fun cdv A outer s H vs Q E hgd hr h => ?_)
  · obtain ⟨l, t, ts, L, rfl, _⟩ := h
    rfl
  · obtain ⟨l, t, ts, L, rfl, M, N, hL, hG, hQ⟩ := h
    have hu := hu_of hr
    have hu66 : (A.deeper (PyProof.Rows.envOfC "_law_machine" (defScope s__law_machine) s.heap.objs.size f cdv)).units + 66 < cLine := by
      have := hr.un
      omega
    have hu64 : (A.deeper (PyProof.Rows.envOfC "_law_machine" (defScope s__law_machine) s.heap.objs.size f cdv)).units + 64 < cLine := by omega
    refine ⟨_, (pss_cons (ps_if (PW.pt (pw_or (pt_not (pt_val (pe_callB call_isTy (by rfl) T.isinstance (by decide +kernel) (pa_cons (pv 0) (pa_cons (pe_bltn (v := .ty "list") (by rfl) T.list rfl rfl) pa_nil))))) (pw_or1 (pt_cmpR op_eq (pe_callB (lenQ K) (by rfl) T.len (by decide +kernel) (pa_cons (pv 1) pa_nil)) pe_int (nomark _)))))
      (pss_one (ps_ret (pe_cmpR (op_eqV hu64) (pv 0) (pe_lst (pa_cons pe_dnewK pa_nil)) (nomark _))))
      pss_nil)
      (pss_cons (ps_set (i := 2) sc__law_machine.nd rfl (Or.inl rfl) (pe_callG h__law_classes (hr.mono (by decide)) p0 (pa_cons (pv 1) pa_nil)))
      (pss_cons (ps_set (i := 3) sc__law_machine.nd rfl (Or.inr rfl) pe_dnewK)
      (pss_cons (ps_for PassesOwn.never rfl (pi_list (pe_callB (cr_sortedKeys rfl) (by rfl) T.sorted (by decide +kernel) (pa_cons (pv 2) pa_nil))) (pg_name (i := 4) sc__law_machine.nd rfl (Or.inl rfl))
      (pss_cons (ps_set (i := 5) sc__law_machine.nd rfl (Or.inl rfl) (pe_callG h_state_of (hr.mono (by decide)) p0 (pa_cons (pv 0) (pa_cons (pv 4) pa_nil))))
      (pss_cons (ps_set (i := 6) sc__law_machine.nd rfl (Or.inl rfl) (pe_callB (cr_reprD hgd hu66) (by rfl) T.repr (by decide +kernel) (pa_cons (pe_dget hu (pv 2) (pv 4) (fun _ _ => rfl)) pa_nil)))
      (pss_cut (ps_if (PW.pt (pw_or (pt_cmpR op_isN (pv 5) pe_non (nomark _)) (pw_or1 (PW.pt (pw_and (pt_cmp (pc_din hu (pv 6) (pv 3))) (pw_and1 (pt_cmpR op_ne (pe_dget hu (pv 3) (pv 6) (fun _ _ => rfl)) (pv 5) (nomark _))))))))
      (pss_one (ps_ret pe_bl))
      pss_nil)
      (pss_cons (ps_dput hu (pv 3) (pv 6) (pv 5) rfl)
      (pss_one (ps_if (pt_not (pt_val (pe_callG h__law_edges (hr.mono (by decide)) p0 (pa_cons (pv 0) (pa_cons (pv 5) (pa_cons (pv 2) (pa_cons (pv 4) (pa_cons (pv 1) pa_nil))))))))
      (pss_one (ps_ret pe_bl))
      pss_nil)))))))
      (pss_one (ps_ret (pe_and (pe_cmpR (op_eqV hu64) (pe_ix (ixL K) (pv 0) (pe_un un_neg pe_int) (fun _ _ => rfl)) pe_dnewK (nomark _)) (pe_and (pe_cmpR op_eq (pe_callB (lenQ K) (by rfl) T.len (by decide +kernel) (pa_cons (pv 0) pa_nil)) (pe_op op_add (pe_callB call_lenD (by rfl) T.len (by decide +kernel) (pa_cons (pv 3) pa_nil)) pe_int) (nomark _)) (pe_one (pe_cmpR op_eq (RZ.pe_lenSetI (by rfl) T.len (by rfl) T.set (pe_lc (own := [("_law_key", 6)]) (g := (gName 6)) (tt := tYes) rfl sc__law_machine.nd (pi_list (pe_callB (cr_sortedKeys rfl) (by rfl) T.sorted (by decide +kernel) (pa_cons (pv 3) pa_nil))) (blkOk_by (own := [("_law_key", 6)]) (N := N__law_machine) (sc := defScope s__law_machine) (by decide +kernel)) (fun _ _ _ _ _ => (pg_name (i := 6) sc__law_machine.nd rfl (Or.inl rfl))) (fun _ _ _ _ _ => pts_nil) (fun _ _ _ _ _ => (pe_dget (by exact hu) (pv 3) (pv 6) (fun _ _ => rfl))))) (pe_callB call_lenD (by rfl) T.len (by decide +kernel) (pa_cons (pv 3) pa_nil)) (nomark _))))))))))), ?_⟩
    obtain ⟨es, h1, h2, h3, h4⟩ := M.ex
    obtain ⟨ps, t1, t2⟩ := id hL
    have tl := paired_len t2
    rw [List.length_map] at tl
    refine ⟨_, rfl, l, _, rfl, SqL.of h1, ?_⟩
    refine ⟨_, rfl, ?_⟩
    refine if_neg_of (by simp) ?_
    refine ⟨_, rfl, t, _, rfl, .inl (SqL.of t1), rfl, _, rfl, ?_⟩
    by_cases h0 : ts = []
    · refine if_pos_of (by rw [List.length_map, tl, h0]; rfl) ?_
      -- edges == [{}]
      subst h0
      have eL := num_nil N
      rw [if_pos rfl, eL] at h2
      obtain ⟨e0, kvs, e1, e2, e3⟩ := h3 0 [] (by rw [eL]; rfl)
      have ek := row_nil e3
      subst ek
      have ees : es = [e0] := by
        cases es with
        | nil => cases e1
        | cons a r =>
          cases r with
          | nil => cases e1; rfl
          | cons b r => simp at h2
      subst ees
      refine ⟨_, rfl, fun x hx => ⟨(by show 1 ≤ sizeLine; decide), fun e he => ?_⟩⟩
      have sx : Same H (upd (upd H x (.dK [])) e (.lst [.ref x])) := same_to (same_upd hx) he
      have xe : x ≠ e := ne_of_none upd_same he
      exact ⟨2, by decide, .inl ⟨l, e, _, _, rfl, rfl, SqL.of (sx _ _ h1), SqL.of upd_same, .cons (.inr (.inr (.inr ⟨e0, x, [], [], rfl, rfl, sx _ _ e2, by rw [upd_ne xe, upd_same], rfl, fun p hp => by cases hp⟩))) .nil⟩, hQ _ sx⟩
    · refine if_neg_of (by rw [List.length_map, tl]; simp [h0]) ?_
      refine ⟨_, rfl, t, ts, rfl, hL, hG, fun H1 c s1 fc C1 => ?_⟩
      refine fun sd hsd => ?_
      have s2 : Same H (upd H1 sd (.dK [])) := same_to s1 hsd
      have C2 := C1.same (same_upd (o := .dK []) hsd)
      obtain ⟨kvs, ks, k1, k2, k3, k4, k5, k6⟩ := C2.ex
      refine ⟨_, rfl, c, kvs, ks, rfl, k1, k2, fun ys q perm hq => ⟨q, rfl, ⟨_, SqL.of upd_same⟩, ?_⟩⟩
      have s3 : Same (upd H1 sd (.dK [])) (upd (upd H1 sd (.dK [])) q (.lst (ys.map V.str))) := same_upd hq
      have sdH : H sd = none := s1.free hsd
      have qne : sd ≠ q := ne_of_none upd_same hq
      have h30 : upd (upd H1 sd (.dK [])) q (.lst (ys.map V.str)) q = some (.lst (ys.map V.str)) := upd_same
      have h3s : upd (upd H1 sd (.dK [])) q (.lst (ys.map V.str)) sd = some (.dK []) := s3 _ _ upd_same
      have s13 := (same_upd (o := .dK []) hsd).trans s3
      generalize hH3 : upd (upd H1 sd (.dK [])) q (.lst (ys.map V.str)) = H3 at h30 h3s s13 ⊢
      have yl : ys.length ≤ 16000 := by
        have := congrArg List.length k2
        rw [List.length_map, List.length_map] at this
        rw [perm.length_eq]
        omega
      refine for_list (K := K) (a := q) (xs := ys.map V.str) (fun i σ H' => ∃ (v4 v5 v6 : Option V) (svs : List (Key × V)), σ = [some (.ref l), some (.ref t), some (.ref c), some (.ref sd), v4, v5, v6] ∧ Same H1 H' ∧ H' q = some (.lst (ys.map V.str)) ∧ H' sd = some (.dK svs) ∧ Seen ts L (ys.take i) svs ∧ svs.length ≤ i)
        ⟨none, none, none, [], rfl, s13, h30, h3s, seen_nil, Nat.zero_le _⟩ (fun i σ H' _ ⟨_, _, _, _, _, _, a, _⟩ => SqL.of a) ?_ ?_
      · rintro i x σ H' hx ⟨v4, v5, v6, svs, rfl, s4, g1, g3, g4, g5⟩
        rw [List.getElem?_map] at hx
        obtain ⟨z, hz, rfl⟩ := Option.map_eq_some_iff.mp hx
        have hil : i < ys.length := (List.getElem?_eq_some_iff.mp hz).1
        have hz2 : IsF ts z := (k4 z).mp (perm.mem_iff.mp (List.mem_of_getElem? hz))
        have hf := (isF_fac h0).mp hz2
        obtain ⟨v, he⟩ := (good wds_ne).ex _ hf
        obtain ⟨j, hj⟩ := List.getElem?_of_mem ((N.mem v).mpr he.1)
        have M4 := M.same (s1.trans s4)
        have C4 := C1.same s4
        obtain ⟨kvs', ks', m1, m2, m3, m4, m5, m6⟩ := C4.ex
        obtain ⟨la, n1, n2, n3⟩ := m6 z ((m4 z).mpr hz2)
        have ok := occs_ok hG (v := z.cps.toList)
        obtain ⟨f1, f2, f3⟩ := tlD_facts ok
        have zl : strLen z ≤ 40 := by
          obtain ⟨y, hy, a', b', _, q2, rfl⟩ := hz2
          exact Nat.le_trans (ltr_cut (hG.ltr _ hy) a' b').2 (hG.len _ hy)
        refine ⟨_, rfl, _, rfl, l, ts, L, z, rfl, M4, N, fun i' v' _ he' hi' => ?_, fun h => absurd hf h⟩
        have ev := he'.uniq he
        subst ev
        have ej := (List.getElem?_inj (List.getElem?_eq_some_iff.mp hi').1 N.nodup).mp (hi'.trans hj.symm)
        subst ej
        have sv := seen_val hG h0 N g4 hf he hj
        have rl : (repS (allOccs ts z.cps.toList)).length ≤ 100000 := Nat.le_trans (repS_len ok) (by have := occsN hG z.cps.toList; omega)
        refine ⟨_, rfl, _, rfl, c, .ref la, rfl, .inl ⟨kvs', .inr z, .inl m1, rfl, n1.symm⟩, la, tlD (allOccs ts z.cps.toList), rfl, dp_rows n3 (simp_map fun e _ => simp_erow e), f1, f2, f3, small rl, ?_⟩
        have g4' := seen_put hG h0 N g4 hf he hj
        show gName 6 (.str (repS (allOccs ts z.cps.toList))) _ _ _
        generalize repS (allOccs ts z.cps.toList) = key at sv g4' rl ⊢
        refine ⟨fun σ' H'' => σ' = [some (.ref l), some (.ref t), some (.ref c), some (.ref sd), some (.str z), some (.int (i' : Nat)), some (.str key)] ∧ H'' = H', ?_, ?_⟩
        · refine ⟨_, rfl, rfl, _, rfl, if_neg_of (by simp) ?_⟩
          refine ⟨_, rfl, _, rfl, sd, _, rfl, .inl ⟨svs, .inr key, .inl g3, rfl, rfl⟩, _, rfl, ?_⟩
          rcases sv with q | q
          · rw [q]
            exact if_neg_of (by simp) (if_neg_of (by simp) ⟨rfl, rfl⟩)
          · rw [q]
            refine if_pos_of (by simp) ?_
            exact ⟨_, rfl, _, rfl, sd, .int (i' : Nat), rfl, .inl ⟨svs, .inr key, .inl g3, rfl, q.symm⟩, _, rfl, rfl, _, rfl, if_neg_of (by simp) ⟨rfl, rfl⟩⟩
        · rintro σ5 H5 ⟨rfl, rfl⟩
          have lk := length_putK svs (.inr key) (.int (i' : Nat))
          refine ⟨_, rfl, _, rfl, _, rfl, sd, _, rfl, .inl ⟨svs, .inr key, g3, rfl, smallLt (by omega), rfl⟩, ?_⟩
          have s5 : Same H1 (upd H5 sd (.dK (putK svs (.inr key) (.int (i' : Nat))))) := same_wr s4 hsd
          have gq : upd H5 sd (.dK (putK svs (.inr key) (.int (i' : Nat)))) q = some (.lst (ys.map V.str)) := by rw [upd_ne (Ne.symm qne)]; exact g1
          have gs : upd H5 sd (.dK (putK svs (.inr key) (.int (i' : Nat)))) sd = some (.dK (putK svs (.inr key) (.int (i' : Nat)))) := upd_same
          generalize upd H5 sd (.dK (putK svs (.inr key) (.int (i' : Nat)))) = H6 at s5 gq gs ⊢
          have s06 := s1.trans s5
          refine ⟨_, rfl, _, rfl, _, rfl, _, rfl, _, rfl, l, c, t, ts, L, z, v', i', 16000, rfl, M.same s06, N, hL.same s06, hG, h0, C1.same s5, hz2, zl, he, hj, fun H7 s7 => ⟨_, rfl, if_neg_of (by simp) ?_⟩⟩
          exact ⟨_, _, _, _, rfl, s5.trans s7, s7 _ _ gq, s7 _ _ gs, by rw [take_snoc hz]; exact g4', by omega⟩
      · rintro σ7 H7 ⟨v4, v5, v6, svs, rfl, s7, g1, g3, g4, g5⟩
        rw [List.length_map, List.take_length] at g4
        rw [List.length_map] at g5
        obtain ⟨sl, sks, e1, e2⟩ := seen_end hG h0 N g4 fun s hs => perm.mem_iff.mpr ((k4 s).mpr hs)
        obtain ⟨el, l1, l2⟩ := h4 h0
        have s07 := s1.trans s7
        rw [if_neg h0] at h2
        refine ⟨_, rfl, _, rfl, l, _, -1, _, rfl, rfl, SqL.of (s07 _ _ h1), atI_neg1 (v := .ref el) (by rw [List.length_map, List.getElem?_map, h2, Nat.add_sub_cancel, l1]; rfl), fun x hx => ?_⟩
        have s8 : Same H7 (upd H7 x (.dK [])) := same_upd hx
        refine ⟨1, by decide, .inr ⟨el, x, [], [], rfl, rfl, s8 _ _ (s07 _ _ l2), upd_same, rfl, fun p hp => by cases hp⟩, ?_⟩
        refine ⟨_, rfl, if_pos_of rfl ?_⟩
        have s08 := s07.trans s8
        have gs := s8 _ _ g3
        refine ⟨_, rfl, l, _, rfl, .inl (SqL.of (s08 _ _ h1)), _, rfl, sd, svs, rfl, gs, _, _, rfl, rfl, rfl, _, rfl, if_pos_of (by rw [List.length_map, h2, sl]; simp) ?_⟩
        refine ⟨_, rfl, sd, svs, sks, rfl, gs, e1, fun ys2 q2 perm2 hq2 => ⟨q2, rfl, ⟨_, SqL.of upd_same⟩, fun D hD => ?_⟩⟩
        obtain ⟨ns, n1, n2, n3⟩ := e2 ys2 perm2
        have gs9 := same_upd (o := .lst (ys2.map V.str)) hq2 _ _ gs
        have gq9 : upd (upd H7 x (.dK [])) q2 (.lst (ys2.map V.str)) q2 = some (.lst (ys2.map V.str)) := upd_same
        have s09 := s08.trans (same_upd (o := .lst (ys2.map V.str)) hq2)
        generalize upd (upd H7 x (.dK [])) q2 (.lst (ys2.map V.str)) = H9 at hD gs9 gq9 s09 ⊢
        have ly : ys2.length = ns.length := by
          have := congrArg List.length e1
          rw [List.length_map, List.length_map] at this
          rw [perm2.length_eq, n1, ← sl, this]
        have lN := M.len
        refine lc_list (K := K) (a := q2) (xs := ys2.map V.str) (fun i H' => Same H9 H' ∧ H' D = some (.lst ((ns.take i).map V.int))) ⟨same_upd hD, upd_same⟩ (fun i H' _ h => SqL.of (h.1 _ _ gq9)) ?_ ?_
        · rintro i y H' hy ⟨s10, g10⟩
          rw [List.getElem?_map] at hy
          obtain ⟨k, hk, rfl⟩ := Option.map_eq_some_iff.mp hy
          obtain ⟨n, hn, hv⟩ := n3 i k hk
          refine ⟨rfl, ⟨_, rfl, _, rfl, sd, .int n, rfl, .inl ⟨svs, .inr k, .inl (s10 _ _ gs9), rfl, hv.symm⟩, _, g10, smallLt (by rw [List.length_map, List.length_take]; omega), same_wr s10 hD, ?_⟩⟩
          rw [upd_same, take_snoc hn, List.map_append]
          rfl
        · rintro H10 ⟨s10, g10⟩
          rw [List.length_map, ly, List.take_length] at g10
          refine ⟨D, ns, rfl, SqL.of g10, n2, by omega, _, rfl, sd, svs, rfl, s10 _ _ gs9, rfl, ?_⟩
          have ed : decide (V.int ((ns.length : Nat) : Int) = V.int ((svs.length : Nat) : Int)) = true := decide_eq_true (by rw [n1, sl])
          show Q (.bl (decide (V.int ((ns.length : Nat) : Int) = V.int ((svs.length : Nat) : Int)))) _
          rw [ed]
          exact hQ _ (s09.trans s10)
end
end Sfx
end
section
set_option Elab.async false
set_option linter.all false
set_option maxRecDepth 100000
set_option maxHeartbeats 4000000
namespace Sfx
open PySem PySem.Spec L2
def kV : Option Nat → V
  | some k => .int (k : Nat)
  | none => .non
def isK (k : Nat) (n : Nat) : List V := (List.range n).map fun j => V.bl (decide (j = k))
theorem isK_dp {K : PySem.W.Frag} {H : Hp} {a : Addr} {k : Nat} (h : H a = some (.lst (isK k 4))) : Dp K H (.ref a) (.list ((isK k 4).map dV)) := dp_vals h fun v hv => by
  obtain ⟨j, _, rfl⟩ := List.mem_map.mp hv
  exact .bl _
theorem isK_sh {k : Nat} : SeqAt.shaped (.list ((isK k 4).map dV)) = true := shaped_vs fun v hv => by
  obtain ⟨j, _, rfl⟩ := List.mem_map.mp hv
  rfl
theorem isK_four {k : Nat} (h : k < 4) : ([.bl (decide (k = 0)), .bl (decide (k = 1)), .bl (decide (k = 2))] ++ [.bl (decide (k = 3))] : List V) = isK k 4 := by
  have : k = 0 ∨ k = 1 ∨ k = 2 ∨ k = 3 := by omega
  rcases this with rfl | rfl | rfl | rfl <;> rfl
theorem isK_eq {k : Nat} (h : k < 4) : PyData.eqv (.list ((isK k 4).map dV)) (.list ((isK k 4).map dV)) = true := by
  have : k = 0 ∨ k = 1 ∨ k = 2 ∨ k = 3 := by omega
  rcases this with rfl | rfl | rfl | rfl <;> simp [isK, dV, List.range, List.range.loop, PyData.eqv, PyData.eqvAll]
theorem putKind_lt {ts : List (Int × Str)} {n : Int} {z : Str} {k : Nat} (h : putKind ts n z = some k) : k < 4 := by
  unfold putKind at h
  split at h
  · cases h; decide
  split at h
  · cases h; decide
  split at h
  · cases h; decide
  split at h
  · cases h; decide
  · cases h
section
variable {P : Program} {w : World} {K : PySem.W.Frag} {mg : Str → Option Value} {base : Heap} {ec : Nat → Addr} {CN CB CT CH cHE : Addr}
abbrev s__law_put : Stmt := topS 51
abbrev N__law_put : List Str := ["_law_house", "_law_texts", "_law_number_here", "_law_text_here", "_law_kind", "error", "_law_kinds", "_law_pair", "_law_k"]
theorem sc__law_put : FnScope ["_law_house", "_law_texts", "_law_number_here", "_law_text_here", "_law_kind", "error", "_law_kinds", "_law_pair", "_law_k"] ["_law_house", "_law_texts", "_law_number_here", "_law_text_here"] (defScope s__law_put) := ⟨rfl, rfl, rfl, by decide +kernel, rfl, by decide +kernel, by decide +kernel⟩
def sp__law_put (CH : Addr) : Sp := fun vs H Q _ => ∃ (z1 z2 p t : Addr) (d : HD) (ts : List (Int × Str)) (ol : List (Int × Nat)) (hi : List (Str × Int × Str)) (n : Int) (z : Str), vs = [.ref p, .ref t, .int n, .str z] ∧ HAt CH (dd H z1 z2) p d ts ol hi ∧ Std1 H z1 ∧ Std1 H z2 ∧ hi.length ≤ 1000 ∧ LT H t (ts.map hrow) ∧ t ≠ d.hl ∧ Ltr z ∧ strLen z ≤ 1000 ∧
  (putKind ts n z ≠ none → ∀ H', Same H H' → Q (.ref t) H') ∧
  (putKind ts n z = none → ∀ H' d' ol' l, HAt CH (dd H' z1 z2) p d' (insN ts n z) ol' (hi ++ [(wPut, n, z)]) → d'.hl = d.hl → Kp p d.hl H H' → H l = none → LT H' l ((insN ts n z).map hrow) → Q (.ref l) H')
theorem ok__law_put {f : Addr} {fd : FuncData} (F : Fun K "_law_put" "_law_put" s__law_put f fd) (T : TxtL K mg ec cHE) (TH : TxtH K CH) (h_House_put : HasM P w K mg base (L2N.CX P w) CH "put" 11 ["self", "number", "text"] (sp_House_put CH ec)) :
    FnOk P w K mg base CX0 12 f fd ["_law_house", "_law_texts", "_law_number_here", "_law_text_here"] (sp__law_put CH) := by
  refine F.ok sc__law_put (fun vs H Q E h => ?_) (fun cdv A outer s H vs Q E hr h => ?_)
  · obtain ⟨z1, z2, p, t, d, ts, ol, hi, n, z, rfl, _⟩ := h
    rfl
  · obtain ⟨z1, z2, p, t, d, ts, ol, hi, n, z, rfl, hA, s1, s2, hil, hL, tne, hz, hzl, hN, hY⟩ := h
    have hu64 : (A.deeper (PyProof.Rows.envOfC "_law_put" (defScope s__law_put) s.heap.objs.size f cdv)).units + 64 < cLine := by
      have := hr.un
      omega
    refine ⟨_, (pss_cons (ps_set (i := 4) sc__law_put.nd rfl (Or.inr rfl) pe_non)
      (pss_cut (ps_if (pt_not (pt_chain op_le op_le pe_int (pv 2) pe_int))
      (pss_one (ps_set (i := 4) sc__law_put.nd rfl (Or.inr rfl) pe_int))
      (pss_one (ps_if (pt_cmpR op_gt (pe_callB (lenQ K) (by rfl) T.len (by decide +kernel) (pa_cons (pe_lc (own := [("_law_pair", 7)]) (g := (gName 7)) rfl sc__law_put.nd (pi_list (pv 1)) (blkOk_by (own := [("_law_pair", 7)]) (N := N__law_put) (sc := defScope s__law_put) (by decide +kernel)) (fun _ _ _ _ _ => (pg_name (i := 7) sc__law_put.nd rfl (Or.inl rfl))) (fun _ _ _ _ _ => (pts_one (pt_cmpR op_eq (pe_ix (ixT K) (pv 7) pe_int (fun _ _ => rfl)) (pv 2) (nomark _)))) (fun _ _ _ _ _ => (pv 7))) pa_nil)) pe_int (nomark _))
      (pss_one (ps_set (i := 4) sc__law_put.nd rfl (Or.inr rfl) pe_int))
      (pss_one (ps_if (pt_cmpR op_gt (pe_callB call_len_str (by rfl) T.len (by decide +kernel) (pa_cons (pv 3) pa_nil)) pe_int (nomark _))
      (pss_one (ps_set (i := 4) sc__law_put.nd rfl (Or.inr rfl) pe_int))
      (pss_one (ps_if (pt_cmpR op_eq (pe_callB (lenQ K) (by rfl) T.len (by decide +kernel) (pa_cons (pv 1) pa_nil)) pe_int (nomark _))
      (pss_one (ps_set (i := 4) sc__law_put.nd rfl (Or.inr rfl) pe_int))
      pss_nil)))))))
      (pss_cons (L2N.ps_try_as (i := 5) rfl rfl sc__law_put.nd rfl rfl ⟨rfl, by decide, .inl T.cHouseError⟩ takesN (fun W pn xe tk _ =>
      (pss_one (ps_expr (pe_methG (pv 0) h_House_put (hr.mono (by decide)) (fun σ => L2N.passAt tk σ) (pa_cons (pv 2) (pa_cons (pv 3) pa_nil))))))
      (fun a oe cls d pn hz hf =>
      (pss_cons (ps_set (i := 6) sc__law_put.nd rfl (Or.inl rfl) (pe_lst (pa_cons (pe_callB (call_isX hz hf) (by rfl) T.isinstance (by decide +kernel) (pa_cons (pv 5) (pa_cons (pe_glob (v := .ref (ec 0)) (by rfl) T.cOutOfRange rfl) pa_nil))) (pa_cons (pe_callB (call_isX hz hf) (by rfl) T.isinstance (by decide +kernel) (pa_cons (pv 5) (pa_cons (pe_glob (v := .ref (ec 1)) (by rfl) T.cTakenNumber rfl) pa_nil))) (pa_cons (pe_callB (call_isX hz hf) (by rfl) T.isinstance (by decide +kernel) (pa_cons (pv 5) (pa_cons (pe_glob (v := .ref (ec 2)) (by rfl) T.cBadText rfl) pa_nil))) pa_nil)))))
      (pss_cons (ps_expr (pe_bmK K PySem.F.plainAttrs_list PySem.F.slot_list_append PySem.F.type_list_append mt_append (pv 6) (pa_cons (pe_callB (call_isX hz hf) (by rfl) T.isinstance (by decide +kernel) (pa_cons (pv 5) (pa_cons (pe_glob (v := .ref (ec 3)) (by rfl) T.cTooMany rfl) pa_nil))) pa_nil)))
      (pss_cons (ps_if (PW.pt (pw_or (pt_cmpR op_isN (pv 4) pe_non (nomark _)) (pw_or (pt_cmpR (neD K (by exact hu64)) (pv 6) (pe_lcR (own := [("_law_k", 8)]) (g := (gName 8)) (tt := tYes) (hot_suite hz hf) sc__law_put.nd (pir_range1 rfl T.range (pa_cons pe_int pa_nil)) (blkOk_by (own := [("_law_k", 8)]) (N := N__law_put) (sc := defScope s__law_put) (by decide +kernel)) (fun _ _ _ _ _ => (pg_name (i := 8) sc__law_put.nd rfl (Or.inl rfl))) (fun _ _ _ _ _ => pts_nil) (fun _ _ _ _ _ => (pe_cmpR op_eq (pv 8) (pv 4) (nomark _)))) (nomark _)) (pw_or1 (pt_cmpR op_ne (pe_xfX hz hf (pv 5)) (pv 2) (nomark _))))))
      (pss_one (ps_ret pe_non))
      pss_nil)
      (pss_one (ps_ret (pv 1))))))))
      (pss_cons (ps_if (pt_cmpR op_notN (pv 4) pe_non (nomark _))
      (pss_one (ps_ret pe_non))
      pss_nil)
      (pss_one (ps_ret (pe_callB cr_sortedM (by rfl) T.sorted (by decide +kernel) (pa_cons (pe_op op_cat (pv 1) (pe_lst (pa_cons (pe_tup (pa_cons (pv 2) (pa_cons (pv 3) pa_nil))) pa_nil))) pa_nil)))))))), ?_⟩
    have hB := hA.same dd_to
    have hG := hA.good
    have hp := hB.obj
    have hn8 := hG.most
    obtain ⟨xs, hx, hxl⟩ := hL.ref
    rw [List.length_map] at hxl
    refine ⟨fun σ' H' => ∃ kv : V, kv = kV (putKind ts n z) ∧ σ' = [some (.ref p), some (.ref t), some (.int n), some (.str z), some kv, none, none, none, none] ∧ Same H H', ?_, ?_⟩
    · have off : ¬ (0 ≤ n ∧ n ≤ 99) → putKind ts n z = some 0 := fun h => if_pos h
      refine ⟨_, rfl, _, _, rfl, rfl, _, rfl, ?_⟩
      by_cases h0 : 0 ≤ n
      · rw [decide_eq_true h0]
        refine ⟨_, _, rfl, rfl, _, rfl, ?_⟩
        by_cases h99 : n ≤ 99
        · have on : putKind ts n z = if (txt ts n).isSome = true then some 1 else if 40 < strLen z then some 2 else if ts.length = 8 then some 3 else none := if_neg (by omega)
          refine if_neg_of (by simp [h99]) ?_
          refine ⟨_, rfl, t, rfl, ⟨_, SqL.of hL.choose_spec.1⟩, fun D hD => ?_⟩
          refine lc_LT (K := K) (H0 := H) hL (fun i H' => Same H H' ∧ LT H' D (((ts.take i).filter fun t => decide (t.1 = n)).map hrow)) ⟨same_upd hD, LT.nil⟩ (fun i H' _ h => h.1) ?_ ?_
          · rintro i r q H' hi' hq ⟨t3, g3⟩
            rw [List.getElem?_map] at hi'
            obtain ⟨⟨m, u⟩, hmu, rfl⟩ := Option.map_eq_some_iff.mp hi'
            have hil : i < ts.length := (List.getElem?_eq_some_iff.mp hmu).1
            refine ⟨rfl, ⟨_, rfl, q, _, 0, _, rfl, rfl, SqT.of hq, rfl, _, rfl, rfl, _, rfl, ?_⟩⟩
            by_cases e : m = n
            · refine if_pos_of (by simp [e]) ?_
              obtain ⟨acc, a1, a2, a3⟩ := g3.app hq
              have hfl : ((ts.take i).filter fun t => decide (t.1 = n)).length ≤ i := Nat.le_trans (List.length_filter_le _ _) (by rw [List.length_take]; omega)
              refine ⟨_, rfl, acc, a1, smallLt (by rw [a2, List.length_map]; omega), same_wr t3 hD, ?_⟩
              rw [take_snoc hmu, List.filter_append, List.filter_cons, if_pos (by simp [e]), List.filter_nil, List.map_append]
              exact a3
            · refine if_neg_of (by simp [e]) ⟨t3, ?_⟩
              rw [take_snoc hmu, List.filter_append, List.filter_cons, if_neg (by simp [e]), List.filter_nil, List.append_nil]
              exact g3
          · rintro H1 ⟨t1, g1⟩
            rw [List.length_map, List.take_length] at g1
            obtain ⟨qs, q1, q2⟩ := g1
            have ql := paired_len q2
            rw [List.length_map] at ql
            refine ⟨D, _, rfl, .inl (SqL.of q1), _, _, rfl, rfl, _, rfl, ?_⟩
            cases hty : txt ts n with
            | some y =>
              rw [hty] at on
              rw [due_some hG.asc hty] at ql
              have ql : qs.length = 1 := ql
              exact if_pos_of (by rw [List.length_map, ql]; simp) ⟨_, by rw [on]; rfl, rfl, t1⟩
            | none =>
              rw [hty] at on
              rw [due_none hty] at ql
              have ql : qs.length = 0 := ql
              refine if_neg_of (by rw [List.length_map, ql]; simp) ?_
              have on : putKind ts n z = if 40 < strLen z then some 2 else if ts.length = 8 then some 3 else none := on
              have zl : z.length = strLen z := rfl
              refine ⟨_, rfl, z, rfl, small (by omega), _, _, rfl, rfl, _, rfl, ?_⟩
              by_cases h40 : 40 < strLen z
              · rw [if_pos h40] at on
                exact if_pos_of (by rw [zl]; simp; omega) ⟨_, by rw [on]; rfl, rfl, t1⟩
              · rw [if_neg h40] at on
                refine if_neg_of (by rw [zl]; simp; omega) ?_
                refine ⟨_, rfl, t, _, rfl, .inl (SqL.of (t1 _ _ hx)), rfl, _, rfl, ?_⟩
                by_cases h8 : ts.length = 8
                · rw [if_pos h8] at on
                  exact if_pos_of (by rw [hxl, h8]; decide) ⟨_, by rw [on]; rfl, rfl, t1⟩
                · rw [if_neg h8] at on
                  exact if_neg_of (by rw [hxl]; simp; omega) ⟨_, by rw [on]; rfl, rfl, t1⟩
        · exact if_pos_of (by simp [h99]) ⟨_, by rw [off (by omega)]; rfl, rfl, Same.refl H⟩
      · rw [decide_eq_false h0]
        exact ⟨_, rfl, ⟨_, by rw [off (by omega)]; rfl, rfl, Same.refl H⟩⟩
    rintro σ1 H1 ⟨kv, ekv, rfl, t1⟩
    have hA1 := hA.same (dd_mono (z1 := z1) (z2 := z2) t1)
    have st1 : ∀ {y}, Std1 H y → Std1 H1 y := fun ⟨u, a, b⟩ => ⟨u, t1 _ _ a, b⟩
    refine ⟨_, rfl, p, d.dx, _, rfl, t1 _ _ hp, rfl, _, rfl, _, rfl, z1, z2, p, d, ts, ol, hi, n, z, rfl, hA1, st1 s1, st1 s2, hz, hzl, hil, fun k hk dd1 H2 t2 hdd hx => ?_, fun hk H2 d' ol' hA2 edl kp => ?_⟩
    · have k4 := putKind_lt hk
      have k6 : k < 6 := by omega
      rw [hk] at ekv
      have ekv : kv = .int (k : Nat) := ekv
      subst ekv
      refine ⟨true, T.exm k k6, fun _ a ha => ?_, fun z => by cases z⟩
      refine ⟨_, rfl, ec k, dd1, _, .ref (ec 0), .ref (ec 0), decide (k = 0), rfl, rfl, hx, T.f k k6, T.g, rfl, fun u h => h, T.kit k 0 k6 (by decide), ?_⟩
      refine ⟨_, rfl, ec k, dd1, _, .ref (ec 1), .ref (ec 1), decide (k = 1), rfl, rfl, hx, T.f k k6, T.g, rfl, fun u h => h, T.kit k 1 k6 (by decide), ?_⟩
      refine ⟨_, rfl, ec k, dd1, _, .ref (ec 2), .ref (ec 2), decide (k = 2), rfl, rfl, hx, T.f k k6, T.g, rfl, fun u h => h, T.kit k 2 k6 (by decide), ?_⟩
      refine ⟨(by show 3 ≤ sizeLine; decide), fun D hD => ?_⟩
      have hx3 := same_upd (o := .lst [.bl (decide (k = 0)), .bl (decide (k = 1)), .bl (decide (k = 2))]) hD _ _ hx
      refine ⟨_, rfl, .inl ⟨rfl, _, SqL.of upd_same⟩, _, rfl, ec k, dd1, _, .ref (ec 3), .ref (ec 3), decide (k = 3), rfl, rfl, hx3, T.f k k6, T.g, rfl, fun u h => h, T.kit k 3 k6 (by decide), ?_⟩
      refine ⟨D, _, _, rfl, rfl, upd_same, (by show 3 < sizeLine; decide), ?_⟩
      have s24 : Same H2 (upd (upd H2 D (.lst [.bl (decide (k = 0)), .bl (decide (k = 1)), .bl (decide (k = 2))])) D (.lst ([.bl (decide (k = 0)), .bl (decide (k = 1)), .bl (decide (k = 2))] ++ [.bl (decide (k = 3))]))) := same_wr (same_upd hD) hD
      have h4D : upd (upd H2 D (.lst [.bl (decide (k = 0)), .bl (decide (k = 1)), .bl (decide (k = 2))])) D (.lst ([.bl (decide (k = 0)), .bl (decide (k = 1)), .bl (decide (k = 2))] ++ [.bl (decide (k = 3))])) D = some (.lst (isK k 4)) := by
        rw [upd_same, isK_four k4]
      generalize upd (upd H2 D (.lst [.bl (decide (k = 0)), .bl (decide (k = 1)), .bl (decide (k = 2))])) D (.lst ([.bl (decide (k = 0)), .bl (decide (k = 1)), .bl (decide (k = 2))] ++ [.bl (decide (k = 3))])) = H4 at s24 h4D ⊢
      refine ⟨_, rfl, rfl, _, rfl, if_neg_of (by simp) ?_⟩
      refine ⟨_, rfl, 4, rfl, by decide, by decide, fun D2 hD2 => ?_⟩
      refine lc_range (fun i H' => Same H4 H' ∧ H' D2 = some (.lst (isK k i))) ⟨same_upd hD2, upd_same⟩ ?_ ?_
      · rintro i H' hi' ⟨t5, g5⟩
        have hi4 : i < 4 := hi'
        refine ⟨rfl, ⟨_, rfl, _, rfl, rfl, _, g5, smallLt (by unfold isK; rw [List.length_map, List.length_range]; omega), same_wr t5 hD2, ?_⟩⟩
        have ed : decide (V.int (0 + ((i : Nat) : Int)) = V.int ((k : Nat) : Int)) = decide (i = k) := decide_eq_decide.mpr ⟨fun h => by have := V.int.inj h; omega, fun h => by rw [h, Int.zero_add]⟩
        rw [upd_same, ed]
        unfold isK
        rw [List.range_succ, List.map_append]
        rfl
      · rintro H5 ⟨t5, g5⟩
        have g5 : H5 D2 = some (.lst (isK k 4)) := g5
        refine ⟨_, _, isK_dp (t5 _ _ h4D), isK_dp g5, isK_sh, isK_sh, ?_⟩
        rw [isK_eq k4]
        refine ⟨_, rfl, if_neg_of (by simp) ?_⟩
        refine ⟨_, rfl, rfl, ec k, dd1, _, _, rfl, (T.f k k6).xf, (T.f k k6).at_, rfl, t5 _ _ (s24 _ _ hx), rfl, _, rfl, rfl, _, rfl, if_neg_of (by simp) ?_⟩
        exact ⟨_, rfl, hN (by rw [hk]; simp) H5 (((t1.trans t2).trans s24).trans t5)⟩
    · rw [hk] at ekv
      have ekv : kv = .non := ekv
      subst ekv
      have tp : t ≠ p := fun e => by
        obtain ⟨q, q1, _⟩ := hL
        rw [e, hp] at q1; cases q1
      have stp : Std1 H1 p := ⟨_, t1 _ _ hp, fun r z => by cases z⟩
      have sth : Std1 H1 d.hl := by
        obtain ⟨q, q1, _⟩ := hB.hist
        exact ⟨_, t1 _ _ q1, fun r z => by cases z⟩
      have kp0 : Kp p d.hl H H2 := (Kp.of t1).trans kp
      have free : ∀ {R : Addr}, H2 R = none → H R = none := fun {R} hR => by
        cases q : H R with
        | none => rfl
        | some o =>
          by_cases e1 : R = p
          · have := (dd_some hA2.obj).2.2
            rw [← e1, hR] at this; cases this
          · by_cases e2 : R = d.hl
            · obtain ⟨q3, q4, _⟩ := hA2.hist
              have := (dd_some q4).2.2
              rw [edl, ← e2, hR] at this; cases this
            · rw [kp0 _ _ q e1 e2] at hR; cases hR
      have hL2 := lt_keep (hL.same t1) kp stp.no sth.no tp tne
      have pk := putOk hk
      refine ⟨_, rfl, rfl, _, rfl, if_neg_of (by simp) ?_⟩
      refine ⟨_, rfl, _, rfl, _, rfl, (by show 2 ≤ sizeLine; decide), fun t2 ht2' => ?_⟩
      refine ⟨(by show 1 ≤ sizeLine; decide), fun e he => ?_⟩
      have sx : Same H2 (upd (upd H2 t2 (.tup [.int n, .str z])) e (.lst [.ref t2])) := same_to (same_upd ht2') he
      have te : t2 ≠ e := ne_of_none upd_same he
      obtain ⟨ql, hl0, hlp⟩ := id (hL2.same sx)
      have hqln : ql.length = ts.length := by have := paired_len hlp; rw [List.length_map] at this; exact this
      refine ⟨t, e, _, _, rfl, rfl, hl0, upd_same, small (by rw [List.length_map]; simp; omega), fun p' hp' => ?_⟩
      have c1 : LT _ p' (ts.map hrow ++ [hrow (n, z)]) := cat_LT (hL2.same sx) (ys := [hrow (n, z)]) ⟨[t2], upd_same, .cons (by rw [upd_ne te, upd_same]; rfl) .nil⟩ hl0 upd_same hp'
      refine ⟨p', _, [false, true], rfl, c1, by simp, fun r hr => ?_, fun qs' rows' q' hperm hpair hsort hq' => ?_⟩
      · rcases List.mem_append.mp hr with hr | hr
        · obtain ⟨x, _, rfl⟩ := List.mem_map.mp hr
          rfl
        · have : r = hrow (n, z) := by simpa using hr
          rw [this]; rfl
      · have er := sorted_insN hG.asc pk.no (by rw [List.map_append]; exact hperm) hsort
        subst er
        have sy := same_to sx hp' (o := .lst (ql.map V.ref ++ [V.ref t2]))
        have sz := same_to sy hq' (o := .lst (qs'.map V.ref))
        exact hY hk _ d' ol' q' (hA2.same (dd_mono sz)) edl (kp0.trans (Kp.of sz)) (free (sy.free hq')) ⟨qs', upd_same, paired_imp (fun _ _ e => same_upd hq' _ _ e) hpair⟩
end
end Sfx
end
section
set_option Elab.async false
set_option linter.all false
set_option maxRecDepth 100000
set_option maxHeartbeats 4000000
namespace Sfx
open PySem PySem.Spec L2
/-- what a change does -/
def Deed (ts : List (Int × Str)) (hi : List (Str × Int × Str)) (ts' : List (Int × Str)) (hi' : List (Str × Int × Str)) : Prop :=
  (ts' = ts ∧ hi' = hi) ∨ (∃ n z, PutOk ts n z ∧ ts' = insN ts n z ∧ hi' = hi ++ [(wPut, n, z)]) ∨ ∃ n y, txt ts n = some y ∧ ts' = ts.filter (fun t => decide (t.1 ≠ n)) ∧ hi' = hi ++ [(wTake, n, y)]
theorem filt_none {ts ts' : List (Int × Str)} (h : ∀ t ∈ ts, t ∈ ts') : ts.filter (fun t => !decide (t ∈ ts')) = [] := by
  rw [List.filter_eq_nil_iff]
  intro t ht
  simp [h t ht]
theorem noted_deed {ts ts' : List (Int × Str)} {hi hi' : List (Str × Int × Str)} (ha : Asc ts) (h : Deed ts hi ts' hi') : noted ts ts' hi = hi' := by
  rcases h with ⟨rfl, rfl⟩ | ⟨n, z, pk, rfl, rfl⟩ | ⟨n, y, hy, rfl, rfl⟩
  · unfold noted
    rw [filt_none fun _ h => h]
    simp
  · unfold noted
    have nin : (n, z) ∉ ts := fun h => pk.no _ h rfl
    rw [filt_none fun t ht => (perm_insN pk.no).mem_iff.mpr (List.mem_append_left _ ht)]
    have sub : ∀ (q : Int × Str → Bool), (ts.filter q).filter (fun t => !decide (t ∈ ts)) = [] := fun q => filt_none fun t ht => (List.mem_filter.mp ht).1
    have e : (insN ts n z).filter (fun t => !decide (t ∈ ts)) = [(n, z)] := by
      unfold insN
      rw [List.filter_append, List.filter_cons, if_pos (by simp [nin]), sub, sub]
      rfl
    rw [e]
    simp
  · unfold noted
    have e1 : ts.filter (fun t => !decide (t ∈ ts.filter (fun t => decide (t.1 ≠ n)))) = ts.filter (fun t => decide (t.1 = n)) := by
      refine List.filter_congr fun t ht => ?_
      by_cases e : t.1 = n <;> simp [List.mem_filter, ht, e]
    rw [e1, due_some ha hy, filt_none fun t ht => (List.mem_filter.mp ht).1]
    simp
/-- the history's rows -/
def GoodHi (hi : List (Str × Int × Str)) : Prop := ∀ r ∈ hi, (r.1 = wPut ∨ r.1 = wTake) ∧ Ltr r.2.2
theorem deed_hi {ts ts' : List (Int × Str)} {hi hi' : List (Str × Int × Str)} (g : GoodTs ts) (g' : GoodTs ts') (h : Deed ts hi ts' hi') (q : GoodHi hi) : GoodHi hi' := by
  rcases h with ⟨rfl, rfl⟩ | ⟨n, z, pk, rfl, rfl⟩ | ⟨n, y, hy, rfl, rfl⟩
  · exact q
  · intro r hr
    rcases List.mem_append.mp hr with hr | hr
    · exact q r hr
    · have : r = (wPut, n, z) := by simpa using hr
      rw [this]
      exact ⟨.inl rfl, g'.ltr (n, z) ((perm_insN pk.no).mem_iff.mpr (by simp))⟩
  · intro r hr
    rcases List.mem_append.mp hr with hr | hr
    · exact q r hr
    · have : r = (wTake, n, y) := by simpa using hr
      rw [this]
      exact ⟨.inr rfl, g.ltr (n, y) (txt_mem hy)⟩
theorem deed_len {ts ts' : List (Int × Str)} {hi hi' : List (Str × Int × Str)} (h : Deed ts hi ts' hi') : hi'.length ≤ hi.length + 1 := by
  rcases h with ⟨rfl, rfl⟩ | ⟨n, z, pk, rfl, rfl⟩ | ⟨n, y, hy, rfl, rfl⟩
  · omega
  · rw [List.length_append]; exact Nat.le_refl _
  · rw [List.length_append]; exact Nat.le_refl _
section
variable {P : Program} {w : World} {K : PySem.W.Frag} {mg : Str → Option Value} {base : Heap} {ec : Nat → Addr} {CN CB CT CH cHE : Addr}
abbrev s__law_deed : Stmt := topS 56
abbrev N__law_deed : List Str := ["_law_house", "_law_texts", "_law_history", "_law_numbers_here", "_law_at", "_law_most", "_law_word", "_law_number_here"]
theorem sc__law_deed : FnScope ["_law_house", "_law_texts", "_law_history", "_law_numbers_here", "_law_at", "_law_most", "_law_word", "_law_number_here"] ["_law_house", "_law_texts", "_law_history", "_law_numbers_here", "_law_at", "_law_most"] (defScope s__law_deed) := ⟨rfl, rfl, rfl, by decide +kernel, rfl, by decide +kernel, by decide +kernel⟩
def sp__law_deed (CH : Addr) : Sp := fun vs H Q _ => ∃ (z1 z2 p t h nl : Addr) (d : HD) (ts : List (Int × Str)) (ol : List (Int × Nat)) (hi : List (Str × Int × Str)) (xs : List Int) (k0 : Nat) (m : Int), vs = [.ref p, .ref t, .ref h, .ref nl, .int (k0 : Nat), .int m] ∧ HAt CH (dd H z1 z2) p d ts ol hi ∧ Std1 H z1 ∧ Std1 H z2 ∧ hi.length ≤ 1000 ∧
  LT H t (ts.map hrow) ∧ LT H h (hi.map irow) ∧ t ≠ d.hl ∧ h ≠ d.hl ∧ H nl = some (.lst (xs.map V.int)) ∧ k0 + 5 ≤ xs.length ∧ 0 ≤ m ∧ m ≤ 1000 ∧
  ∀ H' d' ol' l ts' hi', Deed ts hi ts' hi' → HAt CH (dd H' z1 z2) p d' ts' ol' hi' → d'.hl = d.hl → Kp p d.hl H H' → (l = t ∨ H l = none) → LT H' l (ts'.map hrow) → Q (.ref l) H'
theorem ok__law_deed {f : Addr} {fd : FuncData} (F : Fun K "_law_deed" "_law_deed" s__law_deed f fd) (T : Txt mg) (h__law_number : HasF P w K mg base CX0 "_law_number" 1 ["_law_drawn", "_law_more", "_law_texts"] sp__law_number)
    (h__law_text : HasF P w K mg base CX0 "_law_text" 1 ["_law_drawn", "_law_more", "_law_most"] sp__law_text) (h__law_put : HasF P w K mg base CX0 "_law_put" 12 ["_law_house", "_law_texts", "_law_number_here", "_law_text_here"] (sp__law_put CH))
    (h__law_take : HasF P w K mg base CX0 "_law_take" 12 ["_law_house", "_law_texts", "_law_number_here"] (sp__law_take CH)) (h__law_back : HasF P w K mg base CX0 "_law_back" 13 ["_law_house", "_law_texts", "_law_history"] (sp__law_back CH)) :
    FnOk P w K mg base CX0 14 f fd ["_law_house", "_law_texts", "_law_history", "_law_numbers_here", "_law_at", "_law_most"] (sp__law_deed CH) := by
  refine F.ok sc__law_deed (fun vs H Q E h => ?_) (fun cdv A outer s H vs Q E hr h => ?_)
  · obtain ⟨z1, z2, p, t, h, nl, d, ts, ol, hi, xs, k0, m, rfl, _⟩ := h
    rfl
  · obtain ⟨z1, z2, p, t, h, nl, d, ts, ol, hi, xs, k0, m, rfl, hA, s1, s2, hil, hL, hH, tne, hne, hn, hk, m0, m1, hQ⟩ := h
    refine ⟨_, (pss_cons (ps_set (i := 6) sc__law_deed.nd rfl (Or.inl rfl) (pe_op op_mod (pe_callTy call_int1 (by rfl) T.int (by decide +kernel) (pa_cons (pe_ix (ixL K) (pv 3) (pv 4) (fun _ _ => rfl)) pa_nil)) pe_int))
      (pss_cons (ps_if (pt_cmpR op_lt (pv 6) pe_int (nomark _))
      (pss_cons (ps_set (i := 7) sc__law_deed.nd rfl (Or.inl rfl) (pe_callG h__law_number (hr.mono (by decide)) p0 (pa_cons (pe_op op_add (pe_op op_mul (pe_ix (ixL K) (pv 3) (pe_op op_add (pv 4) pe_int) (fun _ _ => rfl)) pe_int) (pe_op op_mul pe_int (pe_callTy call_int1 (by rfl) T.int (by decide +kernel) (pa_cons (pe_cmpR op_gt (pv 6) pe_int (nomark _)) pa_nil)))) (pa_cons (pe_ix (ixL K) (pv 3) (pe_op op_add (pv 4) pe_int) (fun _ _ => rfl)) (pa_cons (pv 1) pa_nil)))))
      (pss_one (ps_ret (pe_callG h__law_put (hr.mono (by decide)) p0 (pa_cons (pv 0) (pa_cons (pv 1) (pa_cons (pv 7) (pa_cons (pe_callG h__law_text (hr.mono (by decide)) p0 (pa_cons (pe_ix (ixL K) (pv 3) (pe_op op_add (pv 4) pe_int) (fun _ _ => rfl)) (pa_cons (pe_ix (ixL K) (pv 3) (pe_op op_add (pv 4) pe_int) (fun _ _ => rfl)) (pa_cons (pv 5) pa_nil)))) pa_nil))))))))
      pss_nil)
      (pss_cons (ps_if (pt_cmpR op_eq (pv 6) pe_int (nomark _))
      (pss_one (ps_ret (pe_callG h__law_take (hr.mono (by decide)) p0 (pa_cons (pv 0) (pa_cons (pv 1) (pa_cons (pe_callG h__law_number (hr.mono (by decide)) p0 (pa_cons (pe_ix (ixL K) (pv 3) (pe_op op_add (pv 4) pe_int) (fun _ _ => rfl)) (pa_cons (pe_ix (ixL K) (pv 3) (pe_op op_add (pv 4) pe_int) (fun _ _ => rfl)) (pa_cons (pv 1) pa_nil)))) pa_nil))))))
      pss_nil)
      (pss_one (ps_ret (pe_callG h__law_back (hr.mono (by decide)) p0 (pa_cons (pv 0) (pa_cons (pv 1) (pa_cons (pv 2) pa_nil))))))))), ?_⟩
    have at_ : ∀ i : Nat, i < xs.length → ∃ y, ∀ j : Int, j = (i : Nat) → atI (xs.map V.int) j = some (.int y) := fun i h => ⟨xs[i], fun j e => by rw [e]; exact atI_nat (by rw [List.getElem?_map, List.getElem?_eq_getElem h]; rfl)⟩
    obtain ⟨y0, h0⟩ := at_ k0 (by omega)
    obtain ⟨y1, h1⟩ := at_ (k0 + 1) (by omega)
    obtain ⟨y2, h2⟩ := at_ (k0 + 2) (by omega)
    obtain ⟨y3, h3⟩ := at_ (k0 + 3) (by omega)
    obtain ⟨y4, h4⟩ := at_ (k0 + 4) (by omega)
    have S0 : SqL K H nl (xs.map V.int) := SqL.of hn
    have hn8 := hA.good.most
    have same1 : ∀ H', Same H H' → Q (.ref t) H' := fun H' sm => hQ H' d ol t ts hi (.inl ⟨rfl, rfl⟩) (hA.same (dd_mono sm)) rfl (Kp.of sm) (.inl rfl) (hL.same sm)
    refine ⟨_, rfl, _, rfl, nl, _, _, _, rfl, rfl, S0, h0 _ rfl, .inl ⟨_, rfl, _, _, rfl, rfl, (by show (0 : Int) < 7; decide), ?_⟩⟩
    refine ⟨_, rfl, _, _, rfl, rfl, _, rfl, ?_⟩
    by_cases c1 : y0 % 7 < 5
    · refine if_pos_of (by simp [c1]) ?_
      refine ⟨_, rfl, _, rfl, _, _, rfl, rfl, nl, _, _, _, rfl, rfl, S0, h1 _ rfl, _, _, rfl, rfl, .inr ⟨by decide, by decide⟩, _, rfl, _, _, rfl, rfl, .inr ⟨_, rfl, _, _, rfl, rfl, .inl ⟨by decide, by decide⟩, _, _, rfl, rfl, ?_⟩⟩
      refine ⟨_, rfl, _, rfl, _, _, rfl, rfl, nl, _, _, _, rfl, rfl, S0, h2 _ rfl, _, rfl, _, _, t, ts, rfl, hL, hn8, fun n => ?_⟩
      refine ⟨_, rfl, _, rfl, _, rfl, _, rfl, _, rfl, _, _, rfl, rfl, nl, _, _, _, rfl, rfl, S0, h3 _ rfl, _, rfl, _, rfl, _, _, rfl, rfl, nl, _, _, _, rfl, rfl, S0, h4 _ rfl, _, rfl, _, _, _, rfl, m0, m1, fun z hz hzl => ?_⟩
      refine ⟨z1, z2, p, t, d, ts, ol, hi, n, z, rfl, hA, s1, s2, hil, hL, tne, hz, by omega, fun _ => same1, fun hk H' d' ol' l at' edl kp hl lt => ?_⟩
      exact hQ H' d' ol' l _ _ (.inr (.inl ⟨n, z, putOk hk, rfl, rfl⟩)) at' edl kp (.inr hl) lt
    refine if_neg_of (by simp [c1]) ?_
    refine ⟨_, rfl, rfl, _, rfl, ?_⟩
    by_cases c2 : y0 % 7 = 5
    · refine if_pos_of (by simp [c2]) ?_
      refine ⟨_, rfl, _, rfl, _, rfl, _, rfl, _, _, rfl, rfl, nl, _, _, _, rfl, rfl, S0, h1 _ rfl, _, rfl, _, rfl, _, _, rfl, rfl, nl, _, _, _, rfl, rfl, S0, h2 _ rfl, _, rfl, _, _, t, ts, rfl, hL, hn8, fun n => ?_⟩
      refine ⟨z1, z2, p, t, d, ts, ol, hi, n, rfl, hA, s1, s2, hil, hL, tne, fun _ => same1, fun y hy H' d' ol' l at' edl kp hl lt => ?_⟩
      exact hQ H' d' ol' l _ _ (.inr (.inr ⟨n, y, hy, rfl, rfl⟩)) at' edl kp (.inr hl) lt
    · refine if_neg_of (by simp [c2]) ?_
      refine ⟨_, rfl, _, rfl, _, rfl, z1, z2, p, t, h, d, ts, ol, hi, rfl, hA, s1, s2, hil, hL, hH, tne, hne, fun _ => same1, fun n y hlast H' d' ol' l at' edl kp hl lt => ?_, fun n y hlast H' d' ol' l at' edl kp hl lt => ?_⟩
      · refine hQ H' d' ol' l _ _ (.inr (.inr ⟨n, y, ?_, rfl, rfl⟩)) at' edl kp (.inr hl) lt
        rcases hA.last _ _ _ hlast with ⟨_, q⟩ | ⟨e, _⟩
        · exact txt_of_mem hA.good.asc q
        · exact absurd e (by decide)
      · refine hQ H' d' ol' l _ _ (.inr (.inl ⟨n, y, ?_, rfl, rfl⟩)) at' edl kp (.inr hl) lt
        rcases hA.last _ _ _ hlast with ⟨e, _⟩ | ⟨_, q, _⟩
        · exact absurd e (by decide)
        · exact q
end
end Sfx
end
section
set_option Elab.async false
set_option linter.all false
set_option maxRecDepth 100000
set_option maxHeartbeats 4000000
namespace Sfx
open PySem PySem.Spec L2
section
variable {P : Program} {w : World} {K : PySem.W.Frag} {mg : Str → Option Value} {base : Heap} {ec : Nat → Addr} {CN CB CT CH cHE : Addr}
abbrev s__law_same : Stmt := topS 50
abbrev N__law_same : List Str := ["_law_house", "_law_texts", "_law_history", "_law_numbers_here", "_law_at", "_law_is_short"]
theorem sc__law_same : FnScope ["_law_house", "_law_texts", "_law_history", "_law_numbers_here", "_law_at", "_law_is_short"] ["_law_house", "_law_texts", "_law_history", "_law_numbers_here", "_law_at", "_law_is_short"] (defScope s__law_same) := ⟨rfl, rfl, rfl, by decide +kernel, rfl, by decide +kernel, by decide +kernel⟩
def sp__law_same (CH : Addr) : Sp := fun vs H Q _ => ∃ (G : Hp) (p t h nl : Addr) (d : HD) (ts : List (Int × Str)) (ol : List (Int × Nat)) (hi : List (Str × Int × Str)) (xs : List Int) (k0 : Nat) (sh : Bool), vs = [.ref p, .ref t, .ref h, .ref nl, .int (k0 : Nat), .bl sh] ∧ HAt CH G p d ts ol hi ∧ Same G H ∧ LT H t (ts.map hrow) ∧ LT H h (hi.map irow) ∧
  GoodHi hi ∧ H nl = some (.lst (xs.map V.int)) ∧ k0 + 7 ≤ xs.length ∧ ∀ H', Same H H' → Q (.bl true) H'
theorem ok__law_same {f : Addr} {fd : FuncData} (F : Fun K "_law_same" "_law_same" s__law_same f fd) (T : Txt mg) (h__law_machine : HasG P w K mg base "_law_machine" 3 ["_law_edges_here", "_law_texts"] sp__law_machine)
    (h_House_machine : HasM P w K mg base CX0 CH "machine" 1 ["self"] (sp_House_machine CH)) (h_House_texts : HasM P w K mg base CX0 CH "texts" 1 ["self"] (sp_House_texts CH)) (h_House_history : HasM P w K mg base CX0 CH "history" 1 ["self"] (sp_House_history CH))
    (h__law_order : HasF P w K mg base CX0 "_law_order" 2 ["_law_house", "_law_texts", "_law_drawn"] (sp__law_order CH)) (h__law_answers : HasF P w K mg base CX0 "_law_answers" 4 ["_law_house", "_law_texts", "_law_numbers_here", "_law_at"] (sp__law_answers CH)) :
    FnOkG P w K mg base 5 f fd ["_law_house", "_law_texts", "_law_history", "_law_numbers_here", "_law_at", "_law_is_short"] (sp__law_same CH) := by
  refine okG F sc__law_same (fun vs H Q E h => ?_) (fun cdv A outer s H vs Q E hgd hr h => ?_)
  · obtain ⟨G, p, t, h, nl, d, ts, ol, hi, xs, k0, sh, rfl, _⟩ := h
    rfl
  · obtain ⟨G, p, t, h, nl, d, ts, ol, hi, xs, k0, sh, rfl, hA, sG, hL, hH, gh, hn, hk, hQ⟩ := h
    have hu64 : (A.deeper (PyProof.Rows.envOfC "_law_same" (defScope s__law_same) s.heap.objs.size f cdv)).units + 64 < cLine := by
      have := hr.un
      omega
    refine ⟨_, (pss_cut (ps_if (PW.pt (pw_and (pt_val (pv 5)) (pw_and (pt_cmpR op_eq (pe_op op_mod (pe_callTy call_int1 (by rfl) T.int (by decide +kernel) (pa_cons (pe_ix (ixL K) (pv 3) (pv 4) (fun _ _ => rfl)) pa_nil)) pe_int) pe_int (nomark _)) (pw_and1 (pt_not (pt_val (pe_callGG h__law_machine hgd (hr.mono (by decide)) (pa_cons (pe_methG0 (pv 0) h_House_machine (hr.mono (by decide)) p0) (pa_cons (pv 1) pa_nil)))))))))
      (pss_one (ps_ret pe_bl))
      pss_nil)
      (pss_cons (ps_if (PW.pt (pw_or (pt_not (pt_val (pe_callG h__law_order (hr.mono (by decide)) p0 (pa_cons (pv 0) (pa_cons (pv 1) (pa_cons (pe_ix (ixL K) (pv 3) (pe_op op_add (pv 4) pe_int) (fun _ _ => rfl)) pa_nil)))))) (pw_or (pt_cmpR (neD K (by exact hu64)) (pe_methG0 (pv 0) h_House_texts (hr.mono (by decide)) p0) (pv 1) (nomark _)) (pw_or1 (pt_cmpR (neD K (by exact hu64)) (pe_methG0 (pv 0) h_House_history (hr.mono (by decide)) p0) (pv 2) (nomark _))))))
      (pss_one (ps_ret pe_bl))
      pss_nil)
      (pss_cut (ps_if (PW.pt (pw_and (pt_val (pv 5)) (pw_and1 (pt_not (pt_val (pe_callGG h__law_machine hgd (hr.mono (by decide)) (pa_cons (pe_methG0 (pv 0) h_House_machine (hr.mono (by decide)) p0) (pa_cons (pv 1) pa_nil))))))))
      (pss_one (ps_ret pe_bl))
      pss_nil)
      (pss_one (ps_ret (pe_callG h__law_answers (hr.mono (by decide)) p0 (pa_cons (pv 0) (pa_cons (pv 1) (pa_cons (pv 3) (pa_cons (pe_op op_add (pv 4) pe_int) pa_nil)))))))))), ?_⟩
    have hB := hA.same sG
    have hG := hA.good
    have at_ : ∀ i : Nat, i < xs.length → ∃ y, ∀ j : Int, j = (i : Nat) → atI (xs.map V.int) j = some (.int y) := fun i h => ⟨xs[i], fun j e => by rw [e]; exact atI_nat (by rw [List.getElem?_map, List.getElem?_eq_getElem h]; rfl)⟩
    obtain ⟨y0, h0⟩ := at_ k0 (by omega)
    obtain ⟨y1, h1⟩ := at_ (k0 + 1) (by omega)
    have rh : ∀ r ∈ ts.map hrow, simp1 r := simp_map fun t ht => simp_hrow (hG.ltr t ht)
    have ri : ∀ r ∈ hi.map irow, simp1 r := simp_map fun t ht => simp_irow (gh t ht)
    refine ⟨fun σ' H' => σ' = [some (.ref p), some (.ref t), some (.ref h), some (.ref nl), some (.int (k0 : Nat)), some (.bl sh)] ∧ Same H H', ?_, ?_⟩
    · refine ⟨_, rfl, sh, rfl, ?_⟩
      cases sh with
      | false => exact if_neg_of (by simp) (if_neg_of (by simp) ⟨rfl, Same.refl H⟩)
      | true =>
        refine if_pos_of rfl ?_
        refine ⟨_, rfl, _, rfl, nl, _, _, _, rfl, rfl, SqL.of hn, h0 _ rfl, .inl ⟨_, rfl, _, _, rfl, rfl, (by show (0 : Int) < 2; decide), rfl, _, rfl, ?_⟩⟩
        by_cases c : y0 % 2 = 0
        · refine if_pos_of (by simp [c]) ?_
          refine ⟨_, rfl, p, d.dx, _, rfl, hB.obj, rfl, G, p, d, ts, ol, hi, rfl, hA, sG, fun H1 l L s1 hl N M => ?_⟩
          refine ⟨_, rfl, l, t, ts, L, rfl, M, N, hL.same s1, hG, fun H2 s2 => ⟨_, rfl, ?_⟩⟩
          exact if_neg_of (by simp) ⟨rfl, s1.trans s2⟩
        · exact if_neg_of (by simp [c]) (if_neg_of (by simp) ⟨rfl, Same.refl H⟩)
    · rintro σ1 H1 ⟨rfl, s1⟩
      refine ⟨_, rfl, _, rfl, _, rfl, _, rfl, _, _, rfl, rfl, nl, _, _, _, rfl, rfl, SqL.of (s1 _ _ hn), h1 _ rfl, G, p, t, d, ts, ol, hi, y1, rfl, hA, sG.trans s1, hL.same s1, fun H2 s2 => ⟨_, rfl, if_neg_of (by simp) ?_⟩⟩
      have s02 := s1.trans s2
      refine ⟨_, rfl, p, d.dx, _, rfl, s02 _ _ hB.obj, rfl, G, p, d, ts, ol, hi, rfl, hA, sG.trans s02, fun H3 l s3 hl lt => ?_⟩
      have s03 := s02.trans s3
      refine ⟨_, rfl, _, _, dp_rows lt rh, dp_rows (hL.same s03) rh, shaped_rows rh, shaped_rows rh, ?_⟩
      rw [eqv_rows rh rh]
      refine ⟨_, rfl, if_neg_of (by simp) ?_⟩
      refine ⟨_, rfl, p, d.dx, _, rfl, s03 _ _ hB.obj, rfl, G, p, d, ts, ol, hi, rfl, hA, sG.trans s03, fun H4 l2 s4 hl2 lt2 => ?_⟩
      have s04 := s03.trans s4
      refine ⟨_, rfl, _, _, dp_rows lt2 ri, dp_rows (hH.same s04) ri, shaped_rows ri, shaped_rows ri, ?_⟩
      rw [eqv_rows ri ri]
      refine ⟨_, rfl, if_neg_of (by simp) ?_⟩
      refine ⟨fun σ' H' => σ' = [some (.ref p), some (.ref t), some (.ref h), some (.ref nl), some (.int (k0 : Nat)), some (.bl sh)] ∧ Same H H', ?_, ?_⟩
      · refine ⟨_, rfl, sh, rfl, ?_⟩
        cases sh with
        | false => exact if_neg_of (by simp) (if_neg_of (by simp) ⟨rfl, s04⟩)
        | true =>
          refine if_pos_of rfl ?_
          refine ⟨_, rfl, p, d.dx, _, rfl, s04 _ _ hB.obj, rfl, G, p, d, ts, ol, hi, rfl, hA, sG.trans s04, fun H5 l L s5 hl N M => ?_⟩
          refine ⟨_, rfl, l, t, ts, L, rfl, M, N, hL.same (s04.trans s5), hG, fun H6 s6 => ⟨_, rfl, ?_⟩⟩
          exact if_neg_of (by simp) ⟨rfl, (s04.trans s5).trans s6⟩
      · rintro σ5 H5 ⟨rfl, s5⟩
        refine ⟨_, rfl, _, rfl, _, rfl, _, rfl, _, _, rfl, rfl, G, p, t, nl, d, ts, ol, hi, xs, k0 + 2, rfl, hA, sG.trans s5, hL.same s5, s5 _ _ hn, by omega, fun H6 s6 => hQ H6 (s5.trans s6)⟩
end
end Sfx
end
section
set_option Elab.async false
set_option linter.all false
set_option maxRecDepth 100000
set_option maxHeartbeats 4000000
namespace Sfx
open PySem PySem.Spec L2
/-- the house that is changed, the other one's two objects out of sight -/
structure LA (CH : Addr) (H : Hp) (nl p t h z1 z2 : Addr) (d : HD) (ts : List (Int × Str)) (ol : List (Int × Nat)) (hi : List (Str × Int × Str)) (i : Nat) (xs : List Int) : Prop where
  at_ : HAt CH (dd H z1 z2) p d ts ol hi
  s1 : Std1 H z1
  s2 : Std1 H z2
  lt : LT H t (ts.map hrow)
  lh : LT H h (hi.map irow)
  tne : t ≠ d.hl
  hne : h ≠ d.hl
  nne : nl ≠ d.hl
  gh : GoodHi hi
  len : hi.length ≤ i
  nums : H nl = some (.lst (xs.map V.int))
/-- the house that is kept -/
structure LK (CH : Addr) (H : Hp) (p : Addr) (d : HD) (kb kp kt kh : Addr) (e : HD) (ts : List (Int × Str)) (ol : List (Int × Nat)) (hi : List (Str × Int × Str)) : Prop where
  box : H kb = some (.tup [.ref kp, .ref kt, .ref kh])
  at_ : HAt CH (dd H p d.hl) kp e ts ol hi
  lt : LT H kt (ts.map hrow)
  lh : LT H kh (hi.map irow)
  tne : kt ≠ d.hl
  hne : kh ≠ d.hl
  gh : GoodHi hi
def LawAt (CH : Addr) (H : Hp) (nl p t h kb : Addr) (c i : Nat) (xs : List Int) : Prop :=
  ∃ (z1 z2 : Addr) (d : HD) (ts : List (Int × Str)) (ol : List (Int × Nat)) (hi : List (Str × Int × Str)), LA CH H nl p t h z1 z2 d ts ol hi i xs ∧
    (0 < c → ∃ (kp kt kh : Addr) (e : HD) (kts : List (Int × Str)) (kol : List (Int × Nat)) (khi : List (Str × Int × Str)), z1 = kp ∧ z2 = e.hl ∧ LK CH H p d kb kp kt kh e kts kol khi)
section
variable {CH nl p t h z1 z2 kb kp kt kh : Addr} {H H' : Hp} {d d' e : HD} {ts kts : List (Int × Str)} {ol kol : List (Int × Nat)} {hi khi : List (Str × Int × Str)} {i c : Nat} {xs : List Int}
theorem Std1.same {z : Addr} (q : Std1 H z) (s : Same H H') : Std1 H' z := let ⟨u, a, b⟩ := q; ⟨u, s _ _ a, b⟩
theorem LA.same (A : LA CH H nl p t h z1 z2 d ts ol hi i xs) (s : Same H H') : LA CH H' nl p t h z1 z2 d ts ol hi i xs :=
  ⟨A.at_.same (dd_mono s), A.s1.same s, A.s2.same s, A.lt.same s, A.lh.same s, A.tne, A.hne, A.nne, A.gh, A.len, s _ _ A.nums⟩
theorem LK.same (B : LK CH H p d kb kp kt kh e kts kol khi) (s : Same H H') : LK CH H' p d kb kp kt kh e kts kol khi :=
  ⟨s _ _ B.box, B.at_.same (dd_mono s), B.lt.same s, B.lh.same s, B.tne, B.hne, B.gh⟩
theorem LawAt.same (L : LawAt CH H nl p t h kb c i xs) (s : Same H H') : LawAt CH H' nl p t h kb c i xs := by
  obtain ⟨z1, z2, d, ts, ol, hi, A, B⟩ := L
  refine ⟨z1, z2, d, ts, ol, hi, A.same s, fun hc => ?_⟩
  obtain ⟨kp, kt, kh, e, kts, kol, khi, e1, e2, B⟩ := B hc
  exact ⟨kp, kt, kh, e, kts, kol, khi, e1, e2, B.same s⟩
theorem ne_ins {C dx q : Addr} {fs : List (Str × V)} {o : HO} (h1 : H p = some (.ins C dx fs)) (h2 : H q = some o) (hn : ∀ C dx fs, o ≠ .ins C dx fs) : q ≠ p := fun z => by
  rw [z, h1] at h2
  exact hn _ _ _ (Option.some.inj h2).symm
theorem lt_ne_ins {C dx q : Addr} {fs : List (Str × V)} {rows : List (List V)} (h1 : H p = some (.ins C dx fs)) (h2 : LT H q rows) : q ≠ p := let ⟨_, a, _⟩ := h2; ne_ins h1 a fun _ _ _ z => nomatch z
theorem LK.kept (B : LK CH H p d kb kp kt kh e kts kol khi) {C dx : Addr} {fs : List (Str × V)} {l : List V} (hp : H p = some (.ins C dx fs)) (hh : H d.hl = some (.lst l)) (k : Kp p d.hl H H') (ed : d'.hl = d.hl) : LK CH H' p d' kb kp kt kh e kts kol khi := by
  have n1 : NoTup H p := NoTup.of hp fun _ z => nomatch z
  have n2 : NoTup H d.hl := NoTup.of hh fun _ z => nomatch z
  have b1 : kb ≠ p := ne_ins hp B.box fun _ _ _ z => nomatch z
  have b2 : kb ≠ d.hl := fun z => by
    have := B.box
    rw [z, hh] at this
    cases this
  have a2 : HAt CH (dd H' p d'.hl) kp e kts kol khi := by
    rw [ed]
    exact B.at_.same (kp_dd k)
  exact ⟨k _ _ B.box b1 b2, a2, lt_keep B.lt k n1 n2 (lt_ne_ins hp B.lt) B.tne, lt_keep B.lh k n1 n2 (lt_ne_ins hp B.lh) B.hne, by rw [ed]; exact B.tne, by rw [ed]; exact B.hne, B.gh⟩
theorem HAt.stdP {G : Hp} (A : HAt CH G p d ts ol hi) (s : Same G H) : Std1 H p := ⟨_, s _ _ A.obj, fun _ z => nomatch z⟩
theorem HAt.stdH {G : Hp} (A : HAt CH G p d ts ol hi) (s : Same G H) : Std1 H d.hl := let ⟨_, a, _⟩ := A.hist; ⟨_, s _ _ a, fun _ z => nomatch z⟩
section
variable {p2 : Addr} {d2 : HD} (A : LA CH H nl p t h z1 z2 d ts ol hi i xs) (at2 : ∀ z1 z2, Std1 H z1 → Std1 H z2 → HAt CH (dd H' z1 z2) p2 d2 ts ol hi) (s : Same H H') (np : H p2 = none) (nh : H d2.hl = none)
include A at2 s np nh
theorem copy_new : HAt CH (dd H' p d.hl) p2 d2 ts ol hi := at2 _ _ (A.at_.stdP dd_to) (A.at_.stdH dd_to)
theorem copy_old : HAt CH (dd H' p2 d2.hl) p d ts ol hi := A.at_.same fun c o q => by
  obtain ⟨_, _, q⟩ := dd_some q
  rw [dd_ne (fun z => by rw [z, np] at q; cases q) (fun z => by rw [z, nh] at q; cases q)]
  exact s _ _ q
theorem la_old : LA CH H' nl p t h p2 d2.hl d ts ol hi i xs :=
  ⟨copy_old A at2 s np nh, (copy_new A at2 s np nh).stdP dd_to, (copy_new A at2 s np nh).stdH dd_to, A.lt.same s, A.lh.same s, A.tne, A.hne, A.nne, A.gh, A.len, s _ _ A.nums⟩
theorem la_new : LA CH H' nl p2 t h p d.hl d2 ts ol hi i xs :=
  have far : ∀ {q : Addr} {o : HO}, H q = some o → q ≠ d2.hl := fun e z => by rw [z, nh] at e; cases e
  ⟨copy_new A at2 s np nh, (A.at_.stdP dd_to).same s, (A.at_.stdH dd_to).same s, A.lt.same s, A.lh.same s, far A.lt.choose_spec.1, far A.lh.choose_spec.1, far A.nums, A.gh, A.len, s _ _ A.nums⟩
theorem lk_new {H2 : Hp} (s2 : Same H' H2) (box : H2 kb = some (.tup [.ref p2, .ref t, .ref h])) : LK CH H2 p d kb p2 t h d2 ts ol hi :=
  ⟨box, (copy_new A at2 s np nh).same (dd_mono s2), A.lt.same (s.trans s2), A.lh.same (s.trans s2), A.tne, A.hne, A.gh⟩
theorem lk_old {H2 : Hp} (s2 : Same H' H2) (box : H2 kb = some (.tup [.ref p, .ref t, .ref h])) : LK CH H2 p2 d2 kb p t h d ts ol hi :=
  have far : ∀ {q : Addr} {o : HO}, H q = some o → q ≠ d2.hl := fun e z => by rw [z, nh] at e; cases e
  ⟨box, (copy_old A at2 s np nh).same (dd_mono s2), A.lt.same (s.trans s2), A.lh.same (s.trans s2), far A.lt.choose_spec.1, far A.lh.choose_spec.1, A.gh⟩
end
end
section
variable {P : Program} {w : World} {K : PySem.W.Frag} {mg : Str → Option Value} {base : Heap} {ec : Nat → Addr} {CN CB CT CH cHE : Addr}
abbrev s_law : Stmt := topS 57
abbrev N_law : List Str := ["_law_script", "_law_numbers_here", "_law_house", "_law_texts", "_law_history", "_law_kept", "_law_copies", "_law_most", "_law_turn", "_law_at", "_law_after", "_law_other"]
theorem sc_law : FnScope ["_law_script", "_law_numbers_here", "_law_house", "_law_texts", "_law_history", "_law_kept", "_law_copies", "_law_most", "_law_turn", "_law_at", "_law_after", "_law_other"] ["_law_script"] (defScope s_law) := ⟨rfl, rfl, rfl, by decide +kernel, rfl, by decide +kernel, by decide +kernel⟩
def sp_law (K : PySem.W.Frag) : Sp := fun vs H Q _ => ∃ (a : Addr) (ns : List Int), vs = [.ref a] ∧ SqL K H a (ns.map V.int) ∧ ns.length ≤ 1000 ∧ ∀ H', Q (.bl true) H'
theorem ok_law {f : Addr} {fd : FuncData} (F : Fun K "law" "law" s_law f fd) (T : Txt mg) (h__law_numbers : HasF P w K mg base CX0 "_law_numbers" 1 ["_law_script", "_law_many"] (sp__law_numbers K)) (h_House : HasC P w K mg base CX0 "House" CH 11 ["self"] (sp_House_init CH))
    (h__law_deed : HasF P w K mg base CX0 "_law_deed" 14 ["_law_house", "_law_texts", "_law_history", "_law_numbers_here", "_law_at", "_law_most"] (sp__law_deed CH)) (h__law_noted : HasF P w K mg base CX0 "_law_noted" 1 ["_law_texts", "_law_after", "_law_history"] sp__law_noted)
    (h__law_same : HasG P w K mg base "_law_same" 5 ["_law_house", "_law_texts", "_law_history", "_law_numbers_here", "_law_at", "_law_is_short"] (sp__law_same CH)) (h_House_copy : HasM P w K mg base CX0 CH "copy" 13 ["self"] (sp_House_copy CH)) :
    FnOkG P w K mg base 15 f fd ["_law_script"] (sp_law K) := by
  refine okG F sc_law (fun vs H Q E h => ?_) (fun cdv A outer s H vs Q E hgd hr h => ?_)
  · obtain ⟨a, ns, rfl, _⟩ := h
    rfl
  · obtain ⟨a, ns, rfl, hS, hnl, hQ⟩ := h
    refine ⟨_, (pss_cons (ps_set (i := 1) sc_law.nd rfl (Or.inl rfl) (pe_callG h__law_numbers (hr.mono (by decide)) p0 (pa_cons (pv 0) (pa_cons pe_int pa_nil))))
      (pss_cons (ps_set (i := 2) sc_law.nd rfl (Or.inl rfl) (pe_makeG0 h_House (hr.mono (by decide))))
      (pss_cons (ps_set (i := 3) sc_law.nd rfl (Or.inl rfl) (pe_lst pa_nil))
      (pss_cons (ps_set (i := 4) sc_law.nd rfl (Or.inl rfl) (pe_lst pa_nil))
      (pss_cons (ps_set (i := 5) sc_law.nd rfl (Or.inl rfl) (pe_tup (pa_cons (pv 2) (pa_cons (pv 3) (pa_cons (pv 4) pa_nil)))))
      (pss_cons (ps_set (i := 6) sc_law.nd rfl (Or.inl rfl) pe_int)
      (pss_cons (ps_set (i := 7) sc_law.nd rfl (Or.inl rfl) pe_int)
      (pss_cut (ps_if (pt_cmpR op_eq (pe_op op_mod (pe_callTy call_int1 (by rfl) T.int (by decide +kernel) (pa_cons (pe_ix (ixL K) (pv 1) pe_int (fun _ _ => rfl)) pa_nil)) pe_int) pe_int (nomark _))
      (pss_one (ps_set (i := 7) sc_law.nd rfl (Or.inl rfl) pe_int))
      pss_nil)
      (pss_cons (ps_for PassesOwn.never rfl (pi_range1 rfl T.range (pa_cons (pe_op op_mod (pe_callTy call_int1 (by rfl) T.int (by decide +kernel) (pa_cons (pe_ix (ixL K) (pv 1) pe_int (fun _ _ => rfl)) pa_nil)) pe_int) pa_nil)) (pg_name (i := 8) sc_law.nd rfl (Or.inl rfl))
      (pss_cons (ps_set (i := 9) sc_law.nd rfl (Or.inl rfl) (pe_op op_add pe_int (pe_op op_mul pe_int (pv 8))))
      (pss_cons (ps_set (i := 10) sc_law.nd rfl (Or.inl rfl) (pe_callG h__law_deed (hr.mono (by decide)) p0 (pa_cons (pv 2) (pa_cons (pv 3) (pa_cons (pv 4) (pa_cons (pv 1) (pa_cons (pv 9) (pa_cons (pv 7) pa_nil))))))))
      (pss_cons (ps_if (pt_cmpR op_isN (pv 10) pe_non (nomark _))
      (pss_one (ps_ret pe_bl))
      pss_nil)
      (pss_cons (ps_set (i := 4) sc_law.nd rfl (Or.inl rfl) (pe_callG h__law_noted (hr.mono (by decide)) p0 (pa_cons (pv 3) (pa_cons (pv 10) (pa_cons (pv 4) pa_nil)))))
      (pss_cons (ps_set (i := 3) sc_law.nd rfl (Or.inl rfl) (pv 10))
      (pss_cons (ps_if (pt_not (pt_val (pe_callGG h__law_same hgd (hr.mono (by decide)) (pa_cons (pv 2) (pa_cons (pv 3) (pa_cons (pv 4) (pa_cons (pv 1) (pa_cons (pe_op op_add (pv 9) pe_int) (pa_cons (pe_cmpR op_eq (pv 7) pe_int (nomark _)) pa_nil)))))))))
      (pss_one (ps_ret pe_bl))
      pss_nil)
      (pss_one (ps_if (pt_cmpR op_eq (pe_op op_mod (pe_callTy call_int1 (by rfl) T.int (by decide +kernel) (pa_cons (pv 8) pa_nil)) pe_int) pe_int (nomark _))
      (pss_cut (ps_if (PW.pt (pw_and (pt_cmpR op_gt (pv 6) pe_int (nomark _)) (pw_and1 (pt_not (pt_val (pe_callGG h__law_same hgd (hr.mono (by decide)) (pa_cons (pe_ix (ixT K) (pv 5) pe_int (fun _ _ => rfl)) (pa_cons (pe_ix (ixT K) (pv 5) pe_int (fun _ _ => rfl)) (pa_cons (pe_ix (ixT K) (pv 5) pe_int (fun _ _ => rfl)) (pa_cons (pv 1) (pa_cons (pe_op op_add (pv 9) pe_int) (pa_cons (pe_cmpR op_eq (pv 7) pe_int (nomark _)) pa_nil))))))))))))
      (pss_one (ps_ret pe_bl))
      pss_nil)
      (pss_cons (ps_set (i := 6) sc_law.nd rfl (Or.inl rfl) (pe_op op_add (pv 6) pe_int))
      (pss_cons (ps_set (i := 11) sc_law.nd rfl (Or.inl rfl) (pe_methG0 (pv 2) h_House_copy (hr.mono (by decide)) p0))
      (pss_cons (ps_set (i := 5) sc_law.nd rfl (Or.inl rfl) (pe_tup (pa_cons (pv 11) (pa_cons (pv 3) (pa_cons (pv 4) pa_nil)))))
      (pss_one (ps_if (pt_cmpR op_eq (pe_op op_mod (pe_callTy call_int1 (by rfl) T.int (by decide +kernel) (pa_cons (pe_ix (ixL K) (pv 1) (pv 9) (fun _ _ => rfl)) pa_nil)) pe_int) pe_int (nomark _))
      (pss_cons (ps_set (i := 5) sc_law.nd rfl (Or.inl rfl) (pe_tup (pa_cons (pv 2) (pa_cons (pv 3) (pa_cons (pv 4) pa_nil)))))
      (pss_one (ps_set (i := 2) sc_law.nd rfl (Or.inl rfl) (pv 11))))
      pss_nil))))))
      pss_nil)))))))))
      (pss_cons (ps_if (pt_cmpR op_eq (pv 6) pe_int (nomark _))
      (pss_one (ps_ret pe_bl))
      pss_nil)
      (pss_one (ps_ret (pe_callGG h__law_same hgd (hr.mono (by decide)) (pa_cons (pe_ix (ixT K) (pv 5) pe_int (fun _ _ => rfl)) (pa_cons (pe_ix (ixT K) (pv 5) pe_int (fun _ _ => rfl)) (pa_cons (pe_ix (ixT K) (pv 5) pe_int (fun _ _ => rfl)) (pa_cons (pv 1) (pa_cons pe_int (pa_cons (pe_cmpR op_eq (pv 7) pe_int (nomark _)) pa_nil))))))))))))))))))), ?_⟩
    refine ⟨_, rfl, a, ns, 160, rfl, hS, hnl, by decide, by decide, fun H1 nl xs s1 nl0 hn1 xl xr => ?_⟩
    intro x dx nx ndx nex
    refine ⟨x, dx, rfl, upd_same, fun H2 d1 at1 edx k1 fh1 => ⟨rfl, ?_⟩⟩
    refine ⟨Nat.zero_le _, fun t ht => ⟨Nat.zero_le _, fun h hh => ?_⟩⟩
    refine ⟨_, rfl, _, rfl, _, rfl, (by show 3 ≤ sizeLine; decide), fun kb hkb => ?_⟩
    have xl : xs.length = 160 := xl
    have at_ : ∀ i : Nat, i < 160 → ∃ y, ∀ j : Int, j = (i : Nat) → atI (xs.map V.int) j = some (.int y) := fun i h => ⟨xs[i]'(by omega), fun j e => by rw [e]; exact atI_nat (by rw [List.getElem?_map, List.getElem?_eq_getElem (by omega)]; rfl)⟩
    obtain ⟨y0, h0⟩ := at_ 0 (by omega)
    obtain ⟨y1, h1⟩ := at_ 1 (by omega)
    have sA : Same H1 (upd (upd H1 dx (.own x)) x (.ins CH dx [])) := same_to (same_upd ndx) (by rw [upd_ne (Ne.symm nex)]; exact nx)
    have s12 : Same H1 H2 := fun c o h => k1 _ _ (sA _ _ h) (ne_of_none h nx)
    have stn : Std1 (upd (upd H1 dx (.own x)) x (.ins CH dx [])) nl := ⟨_, sA _ _ hn1, fun r z => nomatch z⟩
    have xnl : x ≠ nl := Ne.symm (ne_of_none hn1 nx)
    have A0 := at1 nl nl stn stn xnl xnl
    obtain ⟨q0, q1, _⟩ := id A0.hist
    obtain ⟨q2, _, q3⟩ := dd_some q1
    have s23 : Same H2 (upd (upd (upd H2 t (.lst [])) h (.lst [])) kb (.tup [.ref x, .ref t, .ref h])) := same_to (same_to (same_upd ht) hh) hkb
    have et : upd (upd (upd H2 t (.lst [])) h (.lst [])) kb (.tup [.ref x, .ref t, .ref h]) t = some (.lst []) := same_upd hkb _ _ (same_upd hh _ _ upd_same)
    have eh : upd (upd (upd H2 t (.lst [])) h (.lst [])) kb (.tup [.ref x, .ref t, .ref h]) h = some (.lst []) := same_upd hkb _ _ upd_same
    have tne : d1.hl ≠ t := ne_of_none q3 ht
    have hne : d1.hl ≠ h := ne_of_none (same_upd ht _ _ q3) hh
    generalize upd (upd (upd H2 t (.lst [])) h (.lst [])) kb (.tup [.ref x, .ref t, .ref h]) = H3 at s23 et eh ⊢
    have hn3 := s23 _ _ (s12 _ _ hn1)
    have std3 : Std1 H3 nl := ⟨_, hn3, fun r z => nomatch z⟩
    have LA0 : LA CH H3 nl x t h nl nl d1 [] [] [] 0 xs := ⟨A0.same (dd_mono s23), std3, std3, ⟨[], et, .nil⟩, ⟨[], eh, .nil⟩, Ne.symm tne, Ne.symm hne, Ne.symm q2, (fun r hr => nomatch hr), Nat.zero_le _, hn3⟩
    refine ⟨fun σ' H' => ∃ m : Int, 0 ≤ m ∧ m ≤ 1000 ∧ σ' = [some (.ref a), some (.ref nl), some (.ref x), some (.ref t), some (.ref h), some (.ref kb), some (.int 0), some (.int m), none, none, none, none] ∧ H' = H3, ?_, ?_⟩
    · refine ⟨_, rfl, nl, _, _, _, rfl, rfl, SqL.of hn3, h0 _ rfl, .inl ⟨_, rfl, _, _, rfl, rfl, (by show (0 : Int) < 4; decide), rfl, _, rfl, ?_⟩⟩
      by_cases c : y0 % 4 = 1
      · exact if_pos_of (by simp [c]) ⟨41, by decide, by decide, rfl, rfl⟩
      · exact if_neg_of (by simp [c]) ⟨8, by decide, by decide, rfl, rfl⟩
    rintro σ' H' ⟨m, m0, m1, rfl, rfl⟩
    refine ⟨_, rfl, nl, _, _, _, rfl, rfl, SqL.of hn3, h1 _ rfl, .inl ⟨_, rfl, _, _, rfl, rfl, (by show (0 : Int) < 12; decide), _, rfl, (by show -(2 ^ 62) ≤ y1 % 12; omega), (by show y1 % 12 < 2 ^ 62; omega), ?_⟩⟩
    refine for_range (fun i σ H' => ∃ (p t h kb : Addr) (c : Nat) (v8 v9 v10 v11 : Option V), σ = [some (.ref a), some (.ref nl), some (.ref p), some (.ref t), some (.ref h), some (.ref kb), some (.int (c : Nat)), some (.int m), v8, v9, v10, v11] ∧ LawAt CH H' nl p t h kb c i xs)
      ⟨x, t, h, kb, 0, none, none, none, none, rfl, nl, nl, d1, [], [], [], LA0, fun z => absurd z (by decide)⟩ ?_ ?_
    · rintro i σ H4 hI ⟨p, t, h, kb, c, v8, v9, v10, v11, rfl, z1, z2, d, ts, ol, hi, A, B⟩
      have hI : i < (y1 % 12).toNat := hI
      have i11 : i < 12 := by omega
      have hil := A.len
      rw [Int.zero_add]
      refine ⟨_, rfl, _, _, rfl, rfl, .inl ⟨by decide, by decide⟩, _, _, rfl, rfl, ?_⟩
      refine ⟨_, rfl, _, rfl, _, rfl, _, rfl, _, rfl, _, rfl, z1, z2, p, t, h, nl, d, ts, ol, hi, xs, 4 + 12 * i, m, rfl, A.at_, A.s1, A.s2, by omega, A.lt, A.lh, A.tne, A.hne, A.nums, by omega, m0, m1, fun H5 d' ol' l ts' hi' D5 A5 edl kp hl lt => ?_⟩
      refine ⟨_, rfl, rfl, _, rfl, if_neg_of (by simp) ?_⟩
      have hp := (dd_some A.at_.obj).2.2
      obtain ⟨pz1, pz2, _⟩ := dd_some A.at_.obj
      obtain ⟨qs, hq, _⟩ := id A.at_.hist
      obtain ⟨hz1, hz2, hh⟩ := dd_some hq
      obtain ⟨qs', hq', _⟩ := id A5.hist
      have hh5 := (dd_some hq').2.2
      have n1 : NoTup H4 p := NoTup.of hp fun _ z => nomatch z
      have n2 : NoTup H4 d.hl := NoTup.of hh fun _ z => nomatch z
      have lt5 := lt_keep A.lt kp n1 n2 (lt_ne_ins hp A.lt) A.tne
      have lh5 := lt_keep A.lh kp n1 n2 (lt_ne_ins hp A.lh) A.hne
      have nums5 := kp _ _ A.nums (ne_ins hp A.nums fun _ _ _ z => nomatch z) A.nne
      have lne : l ≠ d'.hl := by
        rw [edl]
        rcases hl with e | e
        · rw [e]; exact A.tne
        · exact Ne.symm (ne_of_none hh e)
      have gh' := deed_hi A.at_.good A5.good D5 A.gh
      have len' := deed_len D5
      have m8 := A.at_.good.most
      have m8' := A5.good.most
      refine ⟨_, rfl, _, rfl, _, rfl, t, l, h, ts, ts', hi, rfl, lt5, lt, lh5, A.at_.good.ltr, A5.good.ltr, by omega, by omega, by omega, fun H6 h2 s6 hh2 lh6 => ?_⟩
      rw [noted_deed A.at_.good.asc D5] at lh6
      have LA6 : LA CH H6 nl p l h2 z1 z2 d' ts' ol' hi' (i + 1) xs :=
        ⟨A5.same (dd_mono s6), (A.s1.kp kp (Ne.symm pz1) (Ne.symm hz1)).same s6, (A.s2.kp kp (Ne.symm pz2) (Ne.symm hz2)).same s6, lt.same s6, lh6, lne, Ne.symm (ne_of_none hh5 hh2), by rw [edl]; exact A.nne, gh', by omega, s6 _ _ nums5⟩
      have LK6 : 0 < c → ∃ (kp kt kh : Addr) (e : HD) (kts : List (Int × Str)) (kol : List (Int × Nat)) (khi : List (Str × Int × Str)), z1 = kp ∧ z2 = e.hl ∧ LK CH H6 p d' kb kp kt kh e kts kol khi := fun hc => by
        obtain ⟨kp', kt, kh, e, kts, kol, khi, e1, e2, BK⟩ := B hc
        exact ⟨kp', kt, kh, e, kts, kol, khi, e1, e2, (BK.kept hp hh kp edl).same s6⟩
      refine ⟨_, rfl, ?_⟩
      refine ⟨_, rfl, _, rfl, _, rfl, _, rfl, _, rfl, _, _, rfl, rfl, _, rfl, rfl, dd H6 z1 z2, p, l, h2, nl, d', ts', ol', hi', xs, 4 + 12 * i + 5, _, rfl, LA6.at_, dd_to, LA6.lt, LA6.lh, gh', LA6.nums, by omega, fun H7 s7 => ⟨_, rfl, if_neg_of (by simp) ?_⟩⟩
      refine ⟨_, rfl, .inl ⟨_, rfl, _, _, rfl, rfl, (by show (0 : Int) < 3; decide), rfl, _, rfl, ?_⟩⟩
      by_cases hc3 : ((i : Nat) : Int) % 3 = 2
      · refine if_pos_of (by simp [hc3]) ?_
        refine ⟨fun σ' H' => σ' = [some (.ref a), some (.ref nl), some (.ref p), some (.ref l), some (.ref h2), some (.ref kb), some (.int (c : Nat)), some (.int m), some (.int (i : Nat)), some (.int (4 + 12 * ((i : Nat) : Int))), some (.ref l), v11] ∧ Same H7 H', ?_, ?_⟩
        · refine ⟨_, rfl, _, _, rfl, rfl, _, rfl, ?_⟩
          by_cases hc : 0 < c
          · obtain ⟨kp', kt, kh, e, kts, kol, khi, e1, e2, BK⟩ := LK6 hc
            have BK := BK.same s7
            refine if_pos_of (by simp; omega) ?_
            refine ⟨_, rfl, kb, _, 0, _, rfl, rfl, SqT.of BK.box, rfl, _, rfl, kb, _, 1, _, rfl, rfl, SqT.of BK.box, rfl, _, rfl, kb, _, 2, _, rfl, rfl, SqT.of BK.box, rfl, _, rfl, _, rfl, _, _, rfl, rfl, _, rfl, rfl, dd H7 p d'.hl, kp', kt, kh, nl, e, kts, kol, khi, xs, 4 + 12 * i + 5, _, rfl, BK.at_, dd_to, BK.lt, BK.lh, BK.gh, s7 _ _ LA6.nums, by omega, fun H8 s8 => ⟨_, rfl, if_neg_of (by simp) ⟨rfl, s8⟩⟩⟩
          · exact if_neg_of (by simp; omega) (if_neg_of (by simp) ⟨rfl, Same.refl _⟩)
        · rintro σ8 H8 ⟨rfl, s8⟩
          have LA8 := LA6.same (s7.trans s8)
          refine ⟨_, rfl, _, _, rfl, rfl, ?_⟩
          refine ⟨_, rfl, p, d'.dx, _, rfl, (dd_some LA8.at_.obj).2.2, rfl, dd H8 z1 z2, p, d', ts', ol', hi', rfl, LA8.at_, dd_to, fun H9 p2 d2 at2 s9 np nhl => ?_⟩
          refine ⟨_, rfl, _, rfl, _, rfl, (by show 3 ≤ sizeLine; decide), fun kb2 hkb2 => ?_⟩
          have s10 : Same H9 (upd H9 kb2 (.tup [.ref p2, .ref l, .ref h2])) := same_upd hkb2
          have b10 : upd H9 kb2 (.tup [.ref p2, .ref l, .ref h2]) kb2 = some (.tup [.ref p2, .ref l, .ref h2]) := upd_same
          generalize upd H9 kb2 (.tup [.ref p2, .ref l, .ref h2]) = H10 at s10 b10 ⊢
          obtain ⟨yk, hk⟩ := at_ (4 + 12 * i) (by omega)
          have LA10 := (la_old LA8 at2 s9 np nhl).same s10
          refine ⟨_, rfl, _, rfl, nl, _, _, _, rfl, rfl, SqL.of LA10.nums, hk _ rfl, .inl ⟨_, rfl, _, _, rfl, rfl, (by show (0 : Int) < 2; decide), rfl, _, rfl, ?_⟩⟩
          by_cases c2 : yk % 2 = 0
          · refine if_pos_of (by simp [c2]) ?_
            refine ⟨_, rfl, _, rfl, _, rfl, (by show 3 ≤ sizeLine; decide), fun kb3 hkb3 => ⟨_, rfl, ?_⟩⟩
            have s11 : Same H9 (upd H10 kb3 (.tup [.ref p, .ref l, .ref h2])) := s10.trans (same_upd hkb3)
            exact ⟨p2, l, h2, kb3, c + 1, _, _, _, _, rfl, p, d'.hl, d2, ts', ol', hi', (la_new LA8 at2 s9 np nhl).same s11, fun _ => ⟨p, l, h2, d', ts', ol', hi', rfl, rfl, lk_old LA8 at2 s9 np nhl s11 upd_same⟩⟩
          · exact if_neg_of (by simp [c2]) ⟨p, l, h2, kb2, c + 1, _, _, _, _, rfl, p2, d2.hl, d', ts', ol', hi', LA10, fun _ => ⟨p2, l, h2, d2, ts', ol', hi', rfl, rfl, lk_new LA8 at2 s9 np nhl s10 b10⟩⟩
      · exact if_neg_of (by simp [hc3]) ⟨p, l, h2, kb, c, _, _, _, _, rfl, z1, z2, d', ts', ol', hi', LA6.same s7, fun hc => by
          obtain ⟨kp', kt, kh, e, kts, kol, khi, e1, e2, BK⟩ := LK6 hc
          exact ⟨kp', kt, kh, e, kts, kol, khi, e1, e2, BK.same s7⟩⟩
    · rintro σ H4 ⟨p, t, h, kb, c, v8, v9, v10, v11, rfl, z1, z2, d, ts, ol, hi, A, B⟩
      refine ⟨_, rfl, rfl, _, rfl, ?_⟩
      by_cases hc : c = 0
      · exact if_pos_of (by simp [hc]) (hQ _)
      · refine if_neg_of (by simp [hc]) ?_
        obtain ⟨kp', kt, kh, e, kts, kol, khi, e1, e2, BK⟩ := B (by omega)
        exact ⟨_, rfl, kb, _, 0, _, rfl, rfl, SqT.of BK.box, rfl, _, rfl, kb, _, 1, _, rfl, rfl, SqT.of BK.box, rfl, _, rfl, kb, _, 2, _, rfl, rfl, SqT.of BK.box, rfl, _, rfl, _, rfl, rfl, dd H4 p d.hl, kp', kt, kh, nl, e, kts, kol, khi, xs, 4, _, rfl, BK.at_, dd_to, BK.lt, BK.lh, BK.gh, A.nums, by omega, fun H8 s8 => hQ _⟩
end
end Sfx
end
section
set_option Elab.async false
set_option linter.all false
set_option maxRecDepth 100000
set_option maxHeartbeats 4000000
namespace Sfx
open PySem PySem.Spec PyProof.Rows L2
/-! What the top has written, in bundles. -/
section
variable (K : PySem.W.Frag)
def GF (nm x qual : Str) (st : Stmt) : Prop := ∃ f fd, PySem.W.nsIn K mainGlobals nm = some (some (.ref f)) ∧ Fun K x qual st f fd
def GM (C : Addr) (x qual : Str) (st : Stmt) : Prop := ∃ f fd, PySem.W.findIn K (.ref C) x = some (some (.ref f)) ∧ PySem.W.isFn K (.ref f) = true ∧ Fun K x qual st f fd
def GL (x qual : Str) (st : Stmt) (f : Addr) : Prop := ∃ fd, Fun K x qual st f fd
structure GC (nm : Str) (C : Addr) : Prop where
  gl : PySem.W.nsIn K mainGlobals nm = some (some (.ref C))
  pg : PySem.W.plainGet K C Str.empty = true
  hd : PySem.W.hasDictIn K C = true
  po : PySem.W.plainOver K C = true
  sa : PySem.W.findIn K (.ref C) "__setattr__" = some (some (.builtin "object.__setattr__"))
  mks : PySem.W.makesIn K C = true
  kc : PySem.W.keepIn K (.ref C) = true
structure GH (C f : Addr) : Prop where
  gl : PySem.W.nsIn K mainGlobals "HouseError" = some (some (.ref C))
  ini : PySem.W.findIn K (.ref C) "__init__" = some (some (.ref f))
  ty : PySem.W.typeIn K (.ref f) = some (.type "function")
  eb : PySem.W.subIn K (.ref C) (.type "BaseException") = some true
  ic : PySem.W.isClsIn K C = true
  tc : PySem.W.typeIn K (.ref C) = some (.type "type")
structure GX (nm : Str) (C cHE f : Addr) : Prop where
  gl : PySem.W.nsIn K mainGlobals nm = some (some (.ref C))
  ob : ∃ nm q N bs bm sn sub ab col dd k0 k1 k2 k3 k5, K.lookup C = some (excClassObj nm q C N bs bm true sn sub ab col dd k0 k1 k2 k3 k5 "ValueError.__new__") ∧ PySem.HandSPX.refsVE bm = true
  sa : PySem.W.findIn K (.ref C) "__setattr__" = some (some (.builtin "object.__setattr__"))
  eb : PySem.W.subIn K (.ref C) (.type "BaseException") = some true
  tc : PySem.W.typeIn K (.ref C) = some (.type "type")
  kc : PySem.W.keepIn K (.ref C) = true
  at_ : PySem.W.findIn K (.ref C) "at" = some none
  ini : PySem.W.findIn K (.ref C) "__init__" = some (some (.ref f))
  ga : PySem.W.findIn K (.ref C) "__getattribute__" = some (some (.builtin "BaseException.__getattribute__"))
  gg : PySem.W.findIn K (.ref C) "__getattr__" = some none
  hd : PySem.W.hasDictIn K C = true
  ic : PySem.W.isClsIn K C = true
  cl : PySem.W.findIn K (.ref C) "__class__" = some (some (.builtin "object.__class__"))
  mr : PySem.W.mroIn K C (.type "object") = some true
  he : PySem.W.subIn K (.ref C) (.ref cHE) = some true
end
section
variable {K : PySem.W.Frag} {f : Addr} {x qual : Str} {st : Stmt} {oc : Value} {od an : Option Addr} {osl : Array (Option Value)} {kV doc pm cdv ct : Value}
theorem gf_mk {nm : Str} (a : PySem.W.nsIn K mainGlobals nm = some (some (.ref f))) (l : K.lookup f = some ⟨oc, od, .func (PySem.W.fnOf x qual (defArgs st) (defBody st) (defScope st) .none kV doc pm an cdv ct), osl⟩) (c : PySem.W.codeIn K cdv qual = true)
    (k : PySem.W.keepIn K (.ref f) = true) : GF K nm x qual st := ⟨f, _, a, fun_mk l c k⟩
theorem gm_mk {C : Addr} (a : PySem.W.findIn K (.ref C) x = some (some (.ref f))) (i : PySem.W.isFn K (.ref f) = true) (l : K.lookup f = some ⟨oc, od, .func (PySem.W.fnOf x qual (defArgs st) (defBody st) (defScope st) .none kV doc pm an cdv ct), osl⟩)
    (c : PySem.W.codeIn K cdv qual = true) (k : PySem.W.keepIn K (.ref f) = true) : GM K C x qual st := ⟨f, _, a, i, fun_mk l c k⟩
theorem gl_mk (l : K.lookup f = some ⟨oc, od, .func (PySem.W.fnOf x qual (defArgs st) (defBody st) (defScope st) .none kV doc pm an cdv ct), osl⟩) (c : PySem.W.codeIn K cdv qual = true) (k : PySem.W.keepIn K (.ref f) = true) : GL K x qual st f :=
  ⟨_, fun_mk l c k⟩
theorem gc_mk {nm : Str} {C : Addr} (a : PySem.W.nsIn K mainGlobals nm = some (some (.ref C))) (b : PySem.W.plainGet K C Str.empty = true) (c : PySem.W.hasDictIn K C = true) (d : PySem.W.plainOver K C = true)
    (e : PySem.W.findIn K (.ref C) "__setattr__" = some (some (.builtin "object.__setattr__"))) (g : PySem.W.makesIn K C = true) (h : PySem.W.keepIn K (.ref C) = true) : GC K nm C := ⟨a, b, c, d, e, g, h⟩
theorem gh_mk {C : Addr} (a : PySem.W.nsIn K mainGlobals "HouseError" = some (some (.ref C))) (b : PySem.W.findIn K (.ref C) "__init__" = some (some (.ref f))) (c : PySem.W.typeIn K (.ref f) = some (.type "function"))
    (d : PySem.W.subIn K (.ref C) (.type "BaseException") = some true) (e : PySem.W.isClsIn K C = true) (g : PySem.W.typeIn K (.ref C) = some (.type "type")) : GH K C f := ⟨a, b, c, d, e, g⟩
theorem gx_mk {nm nm' q : Str} {C cHE N : Addr} {bs : List Value} {sn : List Str} {sub : List Value} {ab : Bool} {col : Option Bool} {dd : Option Addr} {m0 m1 m2 m3 m5 : Option Value} (a : PySem.W.nsIn K mainGlobals nm = some (some (.ref C)))
    (b : K.lookup C = some (excClassObj nm' q C N bs [.ref cHE, .type "ValueError", .type "Exception", .type "BaseException", .type "object"] true sn sub ab col dd m0 m1 m2 m3 m5 "ValueError.__new__"))
    (c : PySem.W.findIn K (.ref C) "__setattr__" = some (some (.builtin "object.__setattr__"))) (d : PySem.W.subIn K (.ref C) (.type "BaseException") = some true) (e : PySem.W.typeIn K (.ref C) = some (.type "type")) (g : PySem.W.keepIn K (.ref C) = true)
    (h : PySem.W.findIn K (.ref C) "at" = some none) (i : PySem.W.findIn K (.ref C) "__init__" = some (some (.ref f))) (j : PySem.W.findIn K (.ref C) "__getattribute__" = some (some (.builtin "BaseException.__getattribute__")))
    (k : PySem.W.findIn K (.ref C) "__getattr__" = some none) (l : PySem.W.hasDictIn K C = true) (m : PySem.W.isClsIn K C = true) (n : PySem.W.findIn K (.ref C) "__class__" = some (some (.builtin "object.__class__")))
    (o : PySem.W.mroIn K C (.type "object") = some true) (p : PySem.W.subIn K (.ref C) (.ref cHE) = some true) : GX K nm C cHE f :=
  ⟨a, ⟨nm', q, N, bs, _, sn, sub, ab, col, dd, m0, m1, m2, m3, m5, b, by
    show PySem.HandSPX.refsVE [.type "ValueError", .type "Exception", .type "BaseException", .type "object"] = true
    decide +kernel⟩, c, d, e, g, h, i, j, k, l, m, n, o, p⟩
theorem GC.cls {nm : Str} {C : Addr} (g : GC K nm C) : Cls K C := ⟨g.pg, g.hd, g.po, g.sa⟩
theorem GX.oex {nm : Str} {C cHE : Addr} (g : GX K nm C cHE f) : OexC K C := ⟨g.ob, g.sa, g.eb, g.tc, g.kc⟩
theorem GX.exf {nm : Str} {C cHE : Addr} (g : GX K nm C cHE f) : ExcF K C := ⟨⟨g.ga, g.gg, g.eb, g.hd⟩, g.ic, g.cl, g.mr, g.at_⟩
theorem exm_of {C D : Addr} (h1 : PySem.W.subIn K (.ref D) (.type "BaseException") = some true) (h2 : PySem.W.isClsIn K D = true) (h3 : PySem.W.typeIn K (.ref D) = some (.type "type")) (h4 : PySem.W.subIn K (.ref C) (.ref D) = some true) :
    PySem.W.exmOne K (.ref C) (.ref D) = some true := by
  have e1 : (PySem.W.subIn K (.ref D) (.type "BaseException") == some true) = true := by rw [h1] <;> rfl
  have e2 : ((PySem.W.clsIn K D).isSome && PySem.W.typeIn K (.ref D) == some (.type "type")) = true := by
    have h2 : (PySem.W.clsIn K D).isSome = true := h2
    rw [h2, h3] <;> rfl
  unfold PySem.W.exmOne PySem.W.kitCls
  rw [if_pos e1]
  dsimp only
  rw [if_pos e2]
  exact h4
theorem kit_self {C : Addr} : PySem.W.kitOne K (.ref C) (.ref C) = some true := by
  unfold PySem.W.kitOne
  rw [if_pos (beq_self_eq_true _)]
theorem kit_no {C D : Addr} (h2 : PySem.W.isClsIn K D = true) (h3 : PySem.W.typeIn K (.ref D) = some (.type "type")) (h1 : PySem.W.subIn K (.ref D) (.type "BaseException") = some true) (h : PySem.W.exmOne K (.ref D) (.ref D) = some true) (h4 : PySem.W.subIn K (.ref C) (.ref D) = some false) :
    PySem.W.kitOne K (.ref C) (.ref D) = some false := by
  have e2 : ((PySem.W.clsIn K D).isSome && PySem.W.typeIn K (.ref D) == some (.type "type")) = true := by
    have h2 : (PySem.W.clsIn K D).isSome = true := h2
    rw [h2, h3] <;> rfl
  have e0 : PySem.W.kitCls K (.ref C) (.ref D) = some false := by
    unfold PySem.W.kitCls
    dsimp only
    rw [if_pos e2]
    exact h4
  have e3 : PySem.W.kitCls K (.ref D) (.ref D) = some true := by
    unfold PySem.W.exmOne at h
    rw [if_pos (by rw [h1] <;> rfl)] at h
    exact h
  unfold PySem.W.kitOne
  rw [if_neg, e0]
  intro z
  rw [eq_of_beq z, e3] at e0
  cases e0
end
def ecOf (e0 e1 e2 e3 e4 e5 : Addr) : Nat → Addr
  | 0 => e0
  | 1 => e1
  | 2 => e2
  | 3 => e3
  | 4 => e4
  | _ => e5
theorem all_mk {l : PySem.W.OpenLaw} {w : World} {K : PySem.W.Frag} {h : Heap} {mg : Str → Option Value} {fa CN CB CT CH cHE fHE e0 e1 e2 e3 e4 e5 : Addr} {t_MOST_TEXTS t_MOST_LETTERS t_MOST_NUMBER : Tok} (KX : K.In h) (G : h.Ns mainGlobals mg) (hfa : mg "law" = some (.ref fa))
    (k_Node : GC K "Node" CN)
    (k_Builder : GC K "Builder" CB)
    (k_Built : GC K "Built" CT)
    (k_House : GC K "House" CH)
    (n_Node_index : NoAttr K CN "index")
    (n_Node_edges : NoAttr K CN "edges")
    (n_Node_link : NoAttr K CN "link")
    (n_Node_size : NoAttr K CN "size")
    (n_Node_pairs : NoAttr K CN "pairs")
    (n_Node_pair : NoAttr K CN "pair")
    (n_Node_number : NoAttr K CN "number")
    (n_Builder_start : NoAttr K CB "start")
    (n_Builder_nodes : NoAttr K CB "nodes")
    (n_Built_marks : NoAttr K CT "marks")
    (n_Built_rows : NoAttr K CT "rows")
    (n_House__texts : NoAttr K CH "_texts")
    (n_House__order : NoAttr K CH "_order")
    (n_House__history : NoAttr K CH "_history")
    (n_House__machine : NoAttr K CH "_machine")
    (n_House__states : NoAttr K CH "_states")
    (n_House__commons : NoAttr K CH "_commons")
    (k_HE : GH K cHE fHE)
    (k_OutOfRange : GX K "OutOfRange" e0 cHE fHE)
    (k_TakenNumber : GX K "TakenNumber" e1 cHE fHE)
    (k_BadText : GX K "BadText" e2 cHE fHE)
    (k_TooMany : GX K "TooMany" e3 cHE fHE)
    (k_NoText : GX K "NoText" e4 cHE fHE)
    (k_NoChange : GX K "NoChange" e5 cHE fHE)
    (u01 : PySem.W.subIn K (.ref e0) (.ref e1) = some false)
    (u02 : PySem.W.subIn K (.ref e0) (.ref e2) = some false)
    (u03 : PySem.W.subIn K (.ref e0) (.ref e3) = some false)
    (u04 : PySem.W.subIn K (.ref e0) (.ref e4) = some false)
    (u05 : PySem.W.subIn K (.ref e0) (.ref e5) = some false)
    (u10 : PySem.W.subIn K (.ref e1) (.ref e0) = some false)
    (u12 : PySem.W.subIn K (.ref e1) (.ref e2) = some false)
    (u13 : PySem.W.subIn K (.ref e1) (.ref e3) = some false)
    (u14 : PySem.W.subIn K (.ref e1) (.ref e4) = some false)
    (u15 : PySem.W.subIn K (.ref e1) (.ref e5) = some false)
    (u20 : PySem.W.subIn K (.ref e2) (.ref e0) = some false)
    (u21 : PySem.W.subIn K (.ref e2) (.ref e1) = some false)
    (u23 : PySem.W.subIn K (.ref e2) (.ref e3) = some false)
    (u24 : PySem.W.subIn K (.ref e2) (.ref e4) = some false)
    (u25 : PySem.W.subIn K (.ref e2) (.ref e5) = some false)
    (u30 : PySem.W.subIn K (.ref e3) (.ref e0) = some false)
    (u31 : PySem.W.subIn K (.ref e3) (.ref e1) = some false)
    (u32 : PySem.W.subIn K (.ref e3) (.ref e2) = some false)
    (u34 : PySem.W.subIn K (.ref e3) (.ref e4) = some false)
    (u35 : PySem.W.subIn K (.ref e3) (.ref e5) = some false)
    (u40 : PySem.W.subIn K (.ref e4) (.ref e0) = some false)
    (u41 : PySem.W.subIn K (.ref e4) (.ref e1) = some false)
    (u42 : PySem.W.subIn K (.ref e4) (.ref e2) = some false)
    (u43 : PySem.W.subIn K (.ref e4) (.ref e3) = some false)
    (u45 : PySem.W.subIn K (.ref e4) (.ref e5) = some false)
    (u50 : PySem.W.subIn K (.ref e5) (.ref e0) = some false)
    (u51 : PySem.W.subIn K (.ref e5) (.ref e1) = some false)
    (u52 : PySem.W.subIn K (.ref e5) (.ref e2) = some false)
    (u53 : PySem.W.subIn K (.ref e5) (.ref e3) = some false)
    (u54 : PySem.W.subIn K (.ref e5) (.ref e4) = some false)
    (x_n : PySem.W.specialIn K (.builtin "object.__class__") "__get__" = some (some (.builtin "getset_descriptor.__get__")))
    (x_t : PySem.W.takesIn K (.builtin "object.__class__") = some true)
    (vV : PySem.W.findCls K (.type "ValueError") (.type "type") "__init__" = some (.val (.builtin "ValueError.__init__")))
    (z_len : PySem.W.nsIn K mainGlobals "len" = some none)
    (z_all : PySem.W.nsIn K mainGlobals "all" = some none)
    (z_ord : PySem.W.nsIn K mainGlobals "ord" = some none)
    (z_sorted : PySem.W.nsIn K mainGlobals "sorted" = some none)
    (z_range : PySem.W.nsIn K mainGlobals "range" = some none)
    (z_min : PySem.W.nsIn K mainGlobals "min" = some none)
    (z_max : PySem.W.nsIn K mainGlobals "max" = some none)
    (z_int : PySem.W.nsIn K mainGlobals "int" = some none)
    (z_abs : PySem.W.nsIn K mainGlobals "abs" = some none)
    (z_dict : PySem.W.nsIn K mainGlobals "dict" = some none)
    (z_list : PySem.W.nsIn K mainGlobals "list" = some none)
    (z_set : PySem.W.nsIn K mainGlobals "set" = some none)
    (z_repr : PySem.W.nsIn K mainGlobals "repr" = some none)
    (z_isinstance : PySem.W.nsIn K mainGlobals "isinstance" = some none)
    (z_ValueError : PySem.W.nsIn K mainGlobals "ValueError" = some none)
    (c_MOST_TEXTS : PySem.W.nsIn K mainGlobals "MOST_TEXTS" = some (some (.int 8 t_MOST_TEXTS)))
    (c_MOST_LETTERS : PySem.W.nsIn K mainGlobals "MOST_LETTERS" = some (some (.int 40 t_MOST_LETTERS)))
    (c_MOST_NUMBER : PySem.W.nsIn K mainGlobals "MOST_NUMBER" = some (some (.int 99 t_MOST_NUMBER)))
    (g_HouseError_init : GL K "__init__" "HouseError.__init__" s_HouseError_init fHE)
    (g_text_of : GF K "text_of" "text_of" "text_of" s_text_of)
    (g_is_text : GF K "is_text" "is_text" "is_text" s_is_text)
    (g_has_number : GF K "has_number" "has_number" "has_number" s_has_number)
    (g_with_text : GF K "with_text" "with_text" "with_text" s_with_text)
    (g_without_text : GF K "without_text" "without_text" "without_text" s_without_text)
    (g_letters_of : GF K "letters_of" "letters_of" "letters_of" s_letters_of)
    (g_is_end : GF K "is_end" "is_end" "is_end" s_is_end)
    (g_alike : GF K "alike" "alike" "alike" s_alike)
    (g_common : GF K "common" "common" "common" s_common)
    (g_commons_of : GF K "commons_of" "commons_of" "commons_of" s_commons_of)
    (g_merged : GF K "merged" "merged" "merged" s_merged)
    (g_order_with : GF K "order_with" "order_with" "order_with" s_order_with)
    (g_order_without : GF K "order_without" "order_without" "order_without" s_order_without)
    (g_Node_init : GM K CN "__init__" "Node.__init__" s_Node_init)
    (g_Builder_init : GM K CB "__init__" "Builder.__init__" s_Builder_init)
    (g_Builder_new_node : GM K CB "new_node" "Builder.new_node" s_Builder_new_node)
    (g_Builder_split : GM K CB "split" "Builder.split" s_Builder_split)
    (g_Builder_step : GM K CB "step" "Builder.step" s_Builder_step)
    (g_Builder_add_text : GM K CB "add_text" "Builder.add_text" s_Builder_add_text)
    (g_Builder_mark_places : GM K CB "mark_places" "Builder.mark_places" s_Builder_mark_places)
    (g_stretch_of : GF K "stretch_of" "stretch_of" "stretch_of" s_stretch_of)
    (g_shortest_size : GF K "shortest_size" "shortest_size" "shortest_size" s_shortest_size)
    (g_Built_init : GM K CT "__init__" "Built.__init__" s_Built_init)
    (g_machine : GF K "machine_machine" "machine" "machine" s_machine)
    (g_states : GF K "states" "states" "states" s_states)
    (g_state_of : GF K "state_of" "state_of" "state_of" s_state_of)
    (g_takes : GF K "takes" "takes" "takes" s_takes)
    (g_House__settle : GM K CH "_settle" "House._settle" s_House__settle)
    (g_House_init : GM K CH "__init__" "House.__init__" s_House_init)
    (g_House_put : GM K CH "put" "House.put" s_House_put)
    (g_House_take : GM K CH "take" "House.take" s_House_take)
    (g_House_back : GM K CH "back" "House.back" s_House_back)
    (g_House_texts : GM K CH "texts" "House.texts" s_House_texts)
    (g_House_order : GM K CH "order" "House.order" s_House_order)
    (g_House_history : GM K CH "history" "House.history" s_House_history)
    (g_House_commons : GM K CH "commons" "House.commons" s_House_commons)
    (g_House_machine : GM K CH "machine" "House.machine" s_House_machine)
    (g_House_places : GM K CH "places" "House.places" s_House_places)
    (g_House_count : GM K CH "count" "House.count" s_House_count)
    (g_House_copy : GM K CH "copy" "House.copy" s_House_copy)
    (g__law_text : GF K "_law_text" "_law_text" "_law_text" s__law_text)
    (g__law_places : GF K "_law_places" "_law_places" "_law_places" s__law_places)
    (g__law_number : GF K "_law_number" "_law_number" "_law_number" s__law_number)
    (g__law_numbers : GF K "_law_numbers" "_law_numbers" "_law_numbers" s__law_numbers)
    (g__law_noted : GF K "_law_noted" "_law_noted" "_law_noted" s__law_noted)
    (g__law_take : GF K "_law_take" "_law_take" "_law_take" s__law_take)
    (g__law_back : GF K "_law_back" "_law_back" "_law_back" s__law_back)
    (g__law_words : GF K "_law_words" "_law_words" "_law_words" s__law_words)
    (g__law_answers : GF K "_law_answers" "_law_answers" "_law_answers" s__law_answers)
    (g__law_order : GF K "_law_order" "_law_order" "_law_order" s__law_order)
    (g__law_classes : GF K "_law_classes" "_law_classes" "_law_classes" s__law_classes)
    (g__law_edges : GF K "_law_edges" "_law_edges" "_law_edges" s__law_edges)
    (g__law_machine : GF K "_law_machine" "_law_machine" "_law_machine" s__law_machine)
    (g__law_put : GF K "_law_put" "_law_put" "_law_put" s__law_put)
    (g__law_deed : GF K "_law_deed" "_law_deed" "_law_deed" s__law_deed)
    (g__law_same : GF K "_law_same" "_law_same" "_law_same" s__law_same)
    (g_law : GF K "law" "law" "law" s_law)
    (s_ : ∀ i, i < 6 → PySem.W.subIn K (.ref (ecOf e0 e1 e2 e3 e4 e5 i)) (.ref (ecOf e0 e1 e2 e3 e4 e5 i)) = some true) :
    ∃ fd : FuncData, (∀ (s : Shared) (u : Value), BindsTo s fd ⟨[u], []⟩ [("_law_script", u)]) ∧ ∀ base : Heap, K.In base → base.Ns mainGlobals mg → FnOkG l.prog w K mg base 15 fa fd ["_law_script"] (sp_law K) := by
  obtain ⟨fd_HouseError_init, F_HouseError_init⟩ := g_HouseError_init
  obtain ⟨f_text_of, fd_text_of, a_text_of, F_text_of⟩ := g_text_of
  obtain ⟨f_is_text, fd_is_text, a_is_text, F_is_text⟩ := g_is_text
  obtain ⟨f_has_number, fd_has_number, a_has_number, F_has_number⟩ := g_has_number
  obtain ⟨f_with_text, fd_with_text, a_with_text, F_with_text⟩ := g_with_text
  obtain ⟨f_without_text, fd_without_text, a_without_text, F_without_text⟩ := g_without_text
  obtain ⟨f_letters_of, fd_letters_of, a_letters_of, F_letters_of⟩ := g_letters_of
  obtain ⟨f_is_end, fd_is_end, a_is_end, F_is_end⟩ := g_is_end
  obtain ⟨f_alike, fd_alike, a_alike, F_alike⟩ := g_alike
  obtain ⟨f_common, fd_common, a_common, F_common⟩ := g_common
  obtain ⟨f_commons_of, fd_commons_of, a_commons_of, F_commons_of⟩ := g_commons_of
  obtain ⟨f_merged, fd_merged, a_merged, F_merged⟩ := g_merged
  obtain ⟨f_order_with, fd_order_with, a_order_with, F_order_with⟩ := g_order_with
  obtain ⟨f_order_without, fd_order_without, a_order_without, F_order_without⟩ := g_order_without
  obtain ⟨f_Node_init, fd_Node_init, a_Node_init, i_Node_init, F_Node_init⟩ := g_Node_init
  obtain ⟨f_Builder_init, fd_Builder_init, a_Builder_init, i_Builder_init, F_Builder_init⟩ := g_Builder_init
  obtain ⟨f_Builder_new_node, fd_Builder_new_node, a_Builder_new_node, i_Builder_new_node, F_Builder_new_node⟩ := g_Builder_new_node
  obtain ⟨f_Builder_split, fd_Builder_split, a_Builder_split, i_Builder_split, F_Builder_split⟩ := g_Builder_split
  obtain ⟨f_Builder_step, fd_Builder_step, a_Builder_step, i_Builder_step, F_Builder_step⟩ := g_Builder_step
  obtain ⟨f_Builder_add_text, fd_Builder_add_text, a_Builder_add_text, i_Builder_add_text, F_Builder_add_text⟩ := g_Builder_add_text
  obtain ⟨f_Builder_mark_places, fd_Builder_mark_places, a_Builder_mark_places, i_Builder_mark_places, F_Builder_mark_places⟩ := g_Builder_mark_places
  obtain ⟨f_stretch_of, fd_stretch_of, a_stretch_of, F_stretch_of⟩ := g_stretch_of
  obtain ⟨f_shortest_size, fd_shortest_size, a_shortest_size, F_shortest_size⟩ := g_shortest_size
  obtain ⟨f_Built_init, fd_Built_init, a_Built_init, i_Built_init, F_Built_init⟩ := g_Built_init
  obtain ⟨f_machine, fd_machine, a_machine, F_machine⟩ := g_machine
  obtain ⟨f_states, fd_states, a_states, F_states⟩ := g_states
  obtain ⟨f_state_of, fd_state_of, a_state_of, F_state_of⟩ := g_state_of
  obtain ⟨f_takes, fd_takes, a_takes, F_takes⟩ := g_takes
  obtain ⟨f_House__settle, fd_House__settle, a_House__settle, i_House__settle, F_House__settle⟩ := g_House__settle
  obtain ⟨f_House_init, fd_House_init, a_House_init, i_House_init, F_House_init⟩ := g_House_init
  obtain ⟨f_House_put, fd_House_put, a_House_put, i_House_put, F_House_put⟩ := g_House_put
  obtain ⟨f_House_take, fd_House_take, a_House_take, i_House_take, F_House_take⟩ := g_House_take
  obtain ⟨f_House_back, fd_House_back, a_House_back, i_House_back, F_House_back⟩ := g_House_back
  obtain ⟨f_House_texts, fd_House_texts, a_House_texts, i_House_texts, F_House_texts⟩ := g_House_texts
  obtain ⟨f_House_order, fd_House_order, a_House_order, i_House_order, F_House_order⟩ := g_House_order
  obtain ⟨f_House_history, fd_House_history, a_House_history, i_House_history, F_House_history⟩ := g_House_history
  obtain ⟨f_House_commons, fd_House_commons, a_House_commons, i_House_commons, F_House_commons⟩ := g_House_commons
  obtain ⟨f_House_machine, fd_House_machine, a_House_machine, i_House_machine, F_House_machine⟩ := g_House_machine
  obtain ⟨f_House_places, fd_House_places, a_House_places, i_House_places, F_House_places⟩ := g_House_places
  obtain ⟨f_House_count, fd_House_count, a_House_count, i_House_count, F_House_count⟩ := g_House_count
  obtain ⟨f_House_copy, fd_House_copy, a_House_copy, i_House_copy, F_House_copy⟩ := g_House_copy
  obtain ⟨f__law_text, fd__law_text, a__law_text, F__law_text⟩ := g__law_text
  obtain ⟨f__law_places, fd__law_places, a__law_places, F__law_places⟩ := g__law_places
  obtain ⟨f__law_number, fd__law_number, a__law_number, F__law_number⟩ := g__law_number
  obtain ⟨f__law_numbers, fd__law_numbers, a__law_numbers, F__law_numbers⟩ := g__law_numbers
  obtain ⟨f__law_noted, fd__law_noted, a__law_noted, F__law_noted⟩ := g__law_noted
  obtain ⟨f__law_take, fd__law_take, a__law_take, F__law_take⟩ := g__law_take
  obtain ⟨f__law_back, fd__law_back, a__law_back, F__law_back⟩ := g__law_back
  obtain ⟨f__law_words, fd__law_words, a__law_words, F__law_words⟩ := g__law_words
  obtain ⟨f__law_answers, fd__law_answers, a__law_answers, F__law_answers⟩ := g__law_answers
  obtain ⟨f__law_order, fd__law_order, a__law_order, F__law_order⟩ := g__law_order
  obtain ⟨f__law_classes, fd__law_classes, a__law_classes, F__law_classes⟩ := g__law_classes
  obtain ⟨f__law_edges, fd__law_edges, a__law_edges, F__law_edges⟩ := g__law_edges
  obtain ⟨f__law_machine, fd__law_machine, a__law_machine, F__law_machine⟩ := g__law_machine
  obtain ⟨f__law_put, fd__law_put, a__law_put, F__law_put⟩ := g__law_put
  obtain ⟨f__law_deed, fd__law_deed, a__law_deed, F__law_deed⟩ := g__law_deed
  obtain ⟨f__law_same, fd__law_same, a__law_same, F__law_same⟩ := g__law_same
  obtain ⟨f_law, fd_law, a_law, F_law⟩ := g_law
  have e := hfa.symm.trans (PySem.W.mg_of KX G a_law)
  cases e
  have T : Txt mg := ⟨PySem.W.mg_none_of KX G z_len, PySem.W.mg_none_of KX G z_all, PySem.W.mg_none_of KX G z_ord, PySem.W.mg_none_of KX G z_sorted, PySem.W.mg_none_of KX G z_range, PySem.W.mg_none_of KX G z_min, PySem.W.mg_none_of KX G z_max, PySem.W.mg_none_of KX G z_int, PySem.W.mg_none_of KX G z_abs, PySem.W.mg_none_of KX G z_dict, PySem.W.mg_none_of KX G z_list, PySem.W.mg_none_of KX G z_set, PySem.W.mg_none_of KX G z_repr, PySem.W.mg_none_of KX G z_isinstance, PySem.W.mg_none_of KX G z_ValueError, ⟨_, PySem.W.mg_of KX G c_MOST_TEXTS⟩, ⟨_, PySem.W.mg_of KX G c_MOST_LETTERS⟩, ⟨_, PySem.W.mg_of KX G c_MOST_NUMBER⟩⟩
  have TN : TxtN K CN := ⟨k_Node.cls, n_Node_index, n_Node_edges, n_Node_link, n_Node_size, n_Node_pairs, n_Node_pair, n_Node_number⟩
  have TB : TxtB K CB := ⟨k_Builder.cls, n_Builder_start, n_Builder_nodes⟩
  have TT : TxtT K CT := ⟨k_Built.cls, n_Built_marks, n_Built_rows⟩
  have TH : TxtH K CH := ⟨k_House.cls, n_House__texts, n_House__order, n_House__history, n_House__machine, n_House__states, n_House__commons⟩
  generalize hec : ecOf e0 e1 e2 e3 e4 e5 = ec at s_
  have q0 : ec 0 = e0 := by rw [← hec]; rfl
  have q1 : ec 1 = e1 := by rw [← hec]; rfl
  have q2 : ec 2 = e2 := by rw [← hec]; rfl
  have q3 : ec 3 = e3 := by rw [← hec]; rfl
  have q4 : ec 4 = e4 := by rw [← hec]; rfl
  have q5 : ec 5 = e5 := by rw [← hec]; rfl
  have XF : ∀ i, i < 6 → ExcF K (ec i) := fun i hi => by
    have : i = 0 ∨ i = 1 ∨ i = 2 ∨ i = 3 ∨ i = 4 ∨ i = 5 := by omega
    rcases this with rfl | rfl | rfl | rfl | rfl | rfl
    · rw [q0]; exact k_OutOfRange.exf
    · rw [q1]; exact k_TakenNumber.exf
    · rw [q2]; exact k_BadText.exf
    · rw [q3]; exact k_TooMany.exf
    · rw [q4]; exact k_NoText.exf
    · rw [q5]; exact k_NoChange.exf
  have XM : ∀ i, i < 6 → PySem.W.exmOne K (.ref (ec i)) (.ref cHE) = some true := fun i hi => by
    have : i = 0 ∨ i = 1 ∨ i = 2 ∨ i = 3 ∨ i = 4 ∨ i = 5 := by omega
    rcases this with rfl | rfl | rfl | rfl | rfl | rfl
    · rw [q0]; exact exm_of k_HE.eb k_HE.ic k_HE.tc k_OutOfRange.he
    · rw [q1]; exact exm_of k_HE.eb k_HE.ic k_HE.tc k_TakenNumber.he
    · rw [q2]; exact exm_of k_HE.eb k_HE.ic k_HE.tc k_BadText.he
    · rw [q3]; exact exm_of k_HE.eb k_HE.ic k_HE.tc k_TooMany.he
    · rw [q4]; exact exm_of k_HE.eb k_HE.ic k_HE.tc k_NoText.he
    · rw [q5]; exact exm_of k_HE.eb k_HE.ic k_HE.tc k_NoChange.he
  have XK : ∀ i j, i < 6 → j < 6 → PySem.W.kitOne K (.ref (ec i)) (.ref (ec j)) = some (decide (i = j)) := fun i j hi hj => by
    by_cases hij : i = j
    · subst hij
      rw [decide_eq_true rfl]; exact kit_self
    rw [decide_eq_false hij]
    have vj := s_ j hj
    have t1 : i = 0 ∨ i = 1 ∨ i = 2 ∨ i = 3 ∨ i = 4 ∨ i = 5 := by omega
    have t2 : j = 0 ∨ j = 1 ∨ j = 2 ∨ j = 3 ∨ j = 4 ∨ j = 5 := by omega
    rcases t1 with rfl | rfl | rfl | rfl | rfl | rfl <;> rcases t2 with rfl | rfl | rfl | rfl | rfl | rfl
    · exact absurd rfl hij
    · rw [q0, q1]; rw [q1] at vj; exact kit_no k_TakenNumber.ic k_TakenNumber.tc k_TakenNumber.eb (exm_of k_TakenNumber.eb k_TakenNumber.ic k_TakenNumber.tc vj) u01
    · rw [q0, q2]; rw [q2] at vj; exact kit_no k_BadText.ic k_BadText.tc k_BadText.eb (exm_of k_BadText.eb k_BadText.ic k_BadText.tc vj) u02
    · rw [q0, q3]; rw [q3] at vj; exact kit_no k_TooMany.ic k_TooMany.tc k_TooMany.eb (exm_of k_TooMany.eb k_TooMany.ic k_TooMany.tc vj) u03
    · rw [q0, q4]; rw [q4] at vj; exact kit_no k_NoText.ic k_NoText.tc k_NoText.eb (exm_of k_NoText.eb k_NoText.ic k_NoText.tc vj) u04
    · rw [q0, q5]; rw [q5] at vj; exact kit_no k_NoChange.ic k_NoChange.tc k_NoChange.eb (exm_of k_NoChange.eb k_NoChange.ic k_NoChange.tc vj) u05
    · rw [q1, q0]; rw [q0] at vj; exact kit_no k_OutOfRange.ic k_OutOfRange.tc k_OutOfRange.eb (exm_of k_OutOfRange.eb k_OutOfRange.ic k_OutOfRange.tc vj) u10
    · exact absurd rfl hij
    · rw [q1, q2]; rw [q2] at vj; exact kit_no k_BadText.ic k_BadText.tc k_BadText.eb (exm_of k_BadText.eb k_BadText.ic k_BadText.tc vj) u12
    · rw [q1, q3]; rw [q3] at vj; exact kit_no k_TooMany.ic k_TooMany.tc k_TooMany.eb (exm_of k_TooMany.eb k_TooMany.ic k_TooMany.tc vj) u13
    · rw [q1, q4]; rw [q4] at vj; exact kit_no k_NoText.ic k_NoText.tc k_NoText.eb (exm_of k_NoText.eb k_NoText.ic k_NoText.tc vj) u14
    · rw [q1, q5]; rw [q5] at vj; exact kit_no k_NoChange.ic k_NoChange.tc k_NoChange.eb (exm_of k_NoChange.eb k_NoChange.ic k_NoChange.tc vj) u15
    · rw [q2, q0]; rw [q0] at vj; exact kit_no k_OutOfRange.ic k_OutOfRange.tc k_OutOfRange.eb (exm_of k_OutOfRange.eb k_OutOfRange.ic k_OutOfRange.tc vj) u20
    · rw [q2, q1]; rw [q1] at vj; exact kit_no k_TakenNumber.ic k_TakenNumber.tc k_TakenNumber.eb (exm_of k_TakenNumber.eb k_TakenNumber.ic k_TakenNumber.tc vj) u21
    · exact absurd rfl hij
    · rw [q2, q3]; rw [q3] at vj; exact kit_no k_TooMany.ic k_TooMany.tc k_TooMany.eb (exm_of k_TooMany.eb k_TooMany.ic k_TooMany.tc vj) u23
    · rw [q2, q4]; rw [q4] at vj; exact kit_no k_NoText.ic k_NoText.tc k_NoText.eb (exm_of k_NoText.eb k_NoText.ic k_NoText.tc vj) u24
    · rw [q2, q5]; rw [q5] at vj; exact kit_no k_NoChange.ic k_NoChange.tc k_NoChange.eb (exm_of k_NoChange.eb k_NoChange.ic k_NoChange.tc vj) u25
    · rw [q3, q0]; rw [q0] at vj; exact kit_no k_OutOfRange.ic k_OutOfRange.tc k_OutOfRange.eb (exm_of k_OutOfRange.eb k_OutOfRange.ic k_OutOfRange.tc vj) u30
    · rw [q3, q1]; rw [q1] at vj; exact kit_no k_TakenNumber.ic k_TakenNumber.tc k_TakenNumber.eb (exm_of k_TakenNumber.eb k_TakenNumber.ic k_TakenNumber.tc vj) u31
    · rw [q3, q2]; rw [q2] at vj; exact kit_no k_BadText.ic k_BadText.tc k_BadText.eb (exm_of k_BadText.eb k_BadText.ic k_BadText.tc vj) u32
    · exact absurd rfl hij
    · rw [q3, q4]; rw [q4] at vj; exact kit_no k_NoText.ic k_NoText.tc k_NoText.eb (exm_of k_NoText.eb k_NoText.ic k_NoText.tc vj) u34
    · rw [q3, q5]; rw [q5] at vj; exact kit_no k_NoChange.ic k_NoChange.tc k_NoChange.eb (exm_of k_NoChange.eb k_NoChange.ic k_NoChange.tc vj) u35
    · rw [q4, q0]; rw [q0] at vj; exact kit_no k_OutOfRange.ic k_OutOfRange.tc k_OutOfRange.eb (exm_of k_OutOfRange.eb k_OutOfRange.ic k_OutOfRange.tc vj) u40
    · rw [q4, q1]; rw [q1] at vj; exact kit_no k_TakenNumber.ic k_TakenNumber.tc k_TakenNumber.eb (exm_of k_TakenNumber.eb k_TakenNumber.ic k_TakenNumber.tc vj) u41
    · rw [q4, q2]; rw [q2] at vj; exact kit_no k_BadText.ic k_BadText.tc k_BadText.eb (exm_of k_BadText.eb k_BadText.ic k_BadText.tc vj) u42
    · rw [q4, q3]; rw [q3] at vj; exact kit_no k_TooMany.ic k_TooMany.tc k_TooMany.eb (exm_of k_TooMany.eb k_TooMany.ic k_TooMany.tc vj) u43
    · exact absurd rfl hij
    · rw [q4, q5]; rw [q5] at vj; exact kit_no k_NoChange.ic k_NoChange.tc k_NoChange.eb (exm_of k_NoChange.eb k_NoChange.ic k_NoChange.tc vj) u45
    · rw [q5, q0]; rw [q0] at vj; exact kit_no k_OutOfRange.ic k_OutOfRange.tc k_OutOfRange.eb (exm_of k_OutOfRange.eb k_OutOfRange.ic k_OutOfRange.tc vj) u50
    · rw [q5, q1]; rw [q1] at vj; exact kit_no k_TakenNumber.ic k_TakenNumber.tc k_TakenNumber.eb (exm_of k_TakenNumber.eb k_TakenNumber.ic k_TakenNumber.tc vj) u51
    · rw [q5, q2]; rw [q2] at vj; exact kit_no k_BadText.ic k_BadText.tc k_BadText.eb (exm_of k_BadText.eb k_BadText.ic k_BadText.tc vj) u52
    · rw [q5, q3]; rw [q3] at vj; exact kit_no k_TooMany.ic k_TooMany.tc k_TooMany.eb (exm_of k_TooMany.eb k_TooMany.ic k_TooMany.tc vj) u53
    · rw [q5, q4]; rw [q4] at vj; exact kit_no k_NoText.ic k_NoText.tc k_NoText.eb (exm_of k_NoText.eb k_NoText.ic k_NoText.tc vj) u54
    · exact absurd rfl hij
  have TL : TxtL K mg ec cHE := { toTxt := T, cHouseError := PySem.W.mg_of KX G k_HE.gl, cOutOfRange := by rw [q0]; exact PySem.W.mg_of KX G k_OutOfRange.gl, cTakenNumber := by rw [q1]; exact PySem.W.mg_of KX G k_TakenNumber.gl, cBadText := by rw [q2]; exact PySem.W.mg_of KX G k_BadText.gl, cTooMany := by rw [q3]; exact PySem.W.mg_of KX G k_TooMany.gl, cNoText := by rw [q4]; exact PySem.W.mg_of KX G k_NoText.gl, cNoChange := by rw [q5]; exact PySem.W.mg_of KX G k_NoChange.gl, f := XF, g := ⟨x_n, x_t⟩, exm := XM, kit := XK }
  have b_HouseError_init := F_HouseError_init.binds (ps := ["self", "at"]) fun _ _ _ _ _ _ us hl => match us, hl with | [_, _], _ => rfl
  have b_text_of := F_text_of.binds (ps := ["house", "number"]) fun _ _ _ _ _ _ us hl => match us, hl with | [_, _], _ => rfl
  have b_is_text := F_is_text.binds (ps := ["text"]) fun _ _ _ _ _ _ us hl => match us, hl with | [_], _ => rfl
  have b_has_number := F_has_number.binds (ps := ["house", "number"]) fun _ _ _ _ _ _ us hl => match us, hl with | [_, _], _ => rfl
  have b_with_text := F_with_text.binds (ps := ["house", "number", "text"]) fun _ _ _ _ _ _ us hl => match us, hl with | [_, _, _], _ => rfl
  have b_without_text := F_without_text.binds (ps := ["house", "number"]) fun _ _ _ _ _ _ us hl => match us, hl with | [_, _], _ => rfl
  have b_letters_of := F_letters_of.binds (ps := ["house", "end"]) fun _ _ _ _ _ _ us hl => match us, hl with | [_, _], _ => rfl
  have b_is_end := F_is_end.binds (ps := ["house", "end"]) fun _ _ _ _ _ _ us hl => match us, hl with | [_, _], _ => rfl
  have b_alike := F_alike.binds (ps := ["one", "two"]) fun _ _ _ _ _ _ us hl => match us, hl with | [_, _], _ => rfl
  have b_common := F_common.binds (ps := ["house", "one", "two"]) fun _ _ _ _ _ _ us hl => match us, hl with | [_, _, _], _ => rfl
  have b_commons_of := F_commons_of.binds (ps := ["house", "order"]) fun _ _ _ _ _ _ us hl => match us, hl with | [_, _], _ => rfl
  have b_merged := F_merged.binds (ps := ["house", "one", "two"]) fun _ _ _ _ _ _ us hl => match us, hl with | [_, _, _], _ => rfl
  have b_order_with := F_order_with.binds (ps := ["house", "order", "number", "text"]) fun _ _ _ _ _ _ us hl => match us, hl with | [_, _, _, _], _ => rfl
  have b_order_without := F_order_without.binds (ps := ["house", "order", "number"]) fun _ _ _ _ _ _ us hl => match us, hl with | [_, _, _], _ => rfl
  have b_Node_init := F_Node_init.binds (ps := ["self", "index", "size", "pair"]) fun _ _ _ _ _ _ us hl => match us, hl with | [_, _, _, _], _ => rfl
  have b_Builder_init := F_Builder_init.binds (ps := ["self"]) fun _ _ _ _ _ _ us hl => match us, hl with | [_], _ => rfl
  have b_Builder_new_node := F_Builder_new_node.binds (ps := ["self", "size", "pair"]) fun _ _ _ _ _ _ us hl => match us, hl with | [_, _, _], _ => rfl
  have b_Builder_split := F_Builder_split.binds (ps := ["self", "node", "letter"]) fun _ _ _ _ _ _ us hl => match us, hl with | [_, _, _], _ => rfl
  have b_Builder_step := F_Builder_step.binds (ps := ["self", "last", "letter", "pair"]) fun _ _ _ _ _ _ us hl => match us, hl with | [_, _, _, _], _ => rfl
  have b_Builder_add_text := F_Builder_add_text.binds (ps := ["self", "number", "text"]) fun _ _ _ _ _ _ us hl => match us, hl with | [_, _, _], _ => rfl
  have b_Builder_mark_places := F_Builder_mark_places.binds (ps := ["self", "number", "text"]) fun _ _ _ _ _ _ us hl => match us, hl with | [_, _, _], _ => rfl
  have b_stretch_of := F_stretch_of.binds (ps := ["house", "pair", "size"]) fun _ _ _ _ _ _ us hl => match us, hl with | [_, _, _], _ => rfl
  have b_shortest_size := F_shortest_size.binds (ps := ["node"]) fun _ _ _ _ _ _ us hl => match us, hl with | [_], _ => rfl
  have b_Built_init := F_Built_init.binds (ps := ["self", "house"]) fun _ _ _ _ _ _ us hl => match us, hl with | [_, _], _ => rfl
  have b_machine := F_machine.binds (ps := ["house"]) fun _ _ _ _ _ _ us hl => match us, hl with | [_], _ => rfl
  have b_states := F_states.binds (ps := ["house"]) fun _ _ _ _ _ _ us hl => match us, hl with | [_], _ => rfl
  have b_state_of := F_state_of.binds (ps := ["edges", "word"]) fun _ _ _ _ _ _ us hl => match us, hl with | [_, _], _ => rfl
  have b_takes := F_takes.binds (ps := ["edges", "word", "mark"]) fun _ _ _ _ _ _ us hl => match us, hl with | [_, _, _], _ => rfl
  have b_House__settle := F_House__settle.binds (ps := ["self"]) fun _ _ _ _ _ _ us hl => match us, hl with | [_], _ => rfl
  have b_House_init := F_House_init.binds (ps := ["self"]) fun _ _ _ _ _ _ us hl => match us, hl with | [_], _ => rfl
  have b_House_put := F_House_put.binds (ps := ["self", "number", "text"]) fun _ _ _ _ _ _ us hl => match us, hl with | [_, _, _], _ => rfl
  have b_House_take := F_House_take.binds (ps := ["self", "number"]) fun _ _ _ _ _ _ us hl => match us, hl with | [_, _], _ => rfl
  have b_House_back := F_House_back.binds (ps := ["self"]) fun _ _ _ _ _ _ us hl => match us, hl with | [_], _ => rfl
  have b_House_texts := F_House_texts.binds (ps := ["self"]) fun _ _ _ _ _ _ us hl => match us, hl with | [_], _ => rfl
  have b_House_order := F_House_order.binds (ps := ["self"]) fun _ _ _ _ _ _ us hl => match us, hl with | [_], _ => rfl
  have b_House_history := F_House_history.binds (ps := ["self"]) fun _ _ _ _ _ _ us hl => match us, hl with | [_], _ => rfl
  have b_House_commons := F_House_commons.binds (ps := ["self"]) fun _ _ _ _ _ _ us hl => match us, hl with | [_], _ => rfl
  have b_House_machine := F_House_machine.binds (ps := ["self"]) fun _ _ _ _ _ _ us hl => match us, hl with | [_], _ => rfl
  have b_House_places := F_House_places.binds (ps := ["self", "word"]) fun _ _ _ _ _ _ us hl => match us, hl with | [_, _], _ => rfl
  have b_House_count := F_House_count.binds (ps := ["self", "word"]) fun _ _ _ _ _ _ us hl => match us, hl with | [_, _], _ => rfl
  have b_House_copy := F_House_copy.binds (ps := ["self"]) fun _ _ _ _ _ _ us hl => match us, hl with | [_], _ => rfl
  have b__law_text := F__law_text.binds (ps := ["_law_drawn", "_law_more", "_law_most"]) fun _ _ _ _ _ _ us hl => match us, hl with | [_, _, _], _ => rfl
  have b__law_places := F__law_places.binds (ps := ["_law_texts", "_law_word"]) fun _ _ _ _ _ _ us hl => match us, hl with | [_, _], _ => rfl
  have b__law_number := F__law_number.binds (ps := ["_law_drawn", "_law_more", "_law_texts"]) fun _ _ _ _ _ _ us hl => match us, hl with | [_, _, _], _ => rfl
  have b__law_numbers := F__law_numbers.binds (ps := ["_law_script", "_law_many"]) fun _ _ _ _ _ _ us hl => match us, hl with | [_, _], _ => rfl
  have b__law_noted := F__law_noted.binds (ps := ["_law_texts", "_law_after", "_law_history"]) fun _ _ _ _ _ _ us hl => match us, hl with | [_, _, _], _ => rfl
  have b__law_take := F__law_take.binds (ps := ["_law_house", "_law_texts", "_law_number_here"]) fun _ _ _ _ _ _ us hl => match us, hl with | [_, _, _], _ => rfl
  have b__law_back := F__law_back.binds (ps := ["_law_house", "_law_texts", "_law_history"]) fun _ _ _ _ _ _ us hl => match us, hl with | [_, _, _], _ => rfl
  have b__law_words := F__law_words.binds (ps := ["_law_texts", "_law_numbers_here", "_law_at"]) fun _ _ _ _ _ _ us hl => match us, hl with | [_, _, _], _ => rfl
  have b__law_answers := F__law_answers.binds (ps := ["_law_house", "_law_texts", "_law_numbers_here", "_law_at"]) fun _ _ _ _ _ _ us hl => match us, hl with | [_, _, _, _], _ => rfl
  have b__law_order := F__law_order.binds (ps := ["_law_house", "_law_texts", "_law_drawn"]) fun _ _ _ _ _ _ us hl => match us, hl with | [_, _, _], _ => rfl
  have b__law_classes := F__law_classes.binds (ps := ["_law_texts"]) fun _ _ _ _ _ _ us hl => match us, hl with | [_], _ => rfl
  have b__law_edges := F__law_edges.binds (ps := ["_law_edges_here", "_law_state", "_law_classes_here", "_law_word", "_law_texts"]) fun _ _ _ _ _ _ us hl => match us, hl with | [_, _, _, _, _], _ => rfl
  have b__law_machine := F__law_machine.binds (ps := ["_law_edges_here", "_law_texts"]) fun _ _ _ _ _ _ us hl => match us, hl with | [_, _], _ => rfl
  have b__law_put := F__law_put.binds (ps := ["_law_house", "_law_texts", "_law_number_here", "_law_text_here"]) fun _ _ _ _ _ _ us hl => match us, hl with | [_, _, _, _], _ => rfl
  have b__law_deed := F__law_deed.binds (ps := ["_law_house", "_law_texts", "_law_history", "_law_numbers_here", "_law_at", "_law_most"]) fun _ _ _ _ _ _ us hl => match us, hl with | [_, _, _, _, _, _], _ => rfl
  have b__law_same := F__law_same.binds (ps := ["_law_house", "_law_texts", "_law_history", "_law_numbers_here", "_law_at", "_law_is_short"]) fun _ _ _ _ _ _ us hl => match us, hl with | [_, _, _, _, _, _], _ => rfl
  obtain ⟨oc, od, kV, doc, pm, an, cdv, ct, osl, rfl, lk, hcd⟩ := F_law.ex
  refine ⟨PySem.W.fnOf "law" "law" (defArgs s_law) (defBody s_law) (defScope s_law) .none kV doc pm an cdv ct, fun s v => .of_eq rfl, fun base _ _ => ?_⟩
  have o_HE : FnOk l.prog w K mg base CX0 1 fHE fd_HouseError_init ["self", "at"] (spHE K) := ok_HouseError_init F_HouseError_init T vV
  have h_OutOfRange : HasE l.prog w K mg base "OutOfRange" (ec 0) := by rw [q0]; exact ⟨k_OutOfRange.oex, k_OutOfRange.at_, PySem.W.mg_of KX G k_OutOfRange.gl, fHE, fd_HouseError_init, k_OutOfRange.ini, k_HE.ty, o_HE, b_HouseError_init⟩
  have h_TakenNumber : HasE l.prog w K mg base "TakenNumber" (ec 1) := by rw [q1]; exact ⟨k_TakenNumber.oex, k_TakenNumber.at_, PySem.W.mg_of KX G k_TakenNumber.gl, fHE, fd_HouseError_init, k_TakenNumber.ini, k_HE.ty, o_HE, b_HouseError_init⟩
  have h_BadText : HasE l.prog w K mg base "BadText" (ec 2) := by rw [q2]; exact ⟨k_BadText.oex, k_BadText.at_, PySem.W.mg_of KX G k_BadText.gl, fHE, fd_HouseError_init, k_BadText.ini, k_HE.ty, o_HE, b_HouseError_init⟩
  have h_TooMany : HasE l.prog w K mg base "TooMany" (ec 3) := by rw [q3]; exact ⟨k_TooMany.oex, k_TooMany.at_, PySem.W.mg_of KX G k_TooMany.gl, fHE, fd_HouseError_init, k_TooMany.ini, k_HE.ty, o_HE, b_HouseError_init⟩
  have h_NoText : HasE l.prog w K mg base "NoText" (ec 4) := by rw [q4]; exact ⟨k_NoText.oex, k_NoText.at_, PySem.W.mg_of KX G k_NoText.gl, fHE, fd_HouseError_init, k_NoText.ini, k_HE.ty, o_HE, b_HouseError_init⟩
  have h_NoChange : HasE l.prog w K mg base "NoChange" (ec 5) := by rw [q5]; exact ⟨k_NoChange.oex, k_NoChange.at_, PySem.W.mg_of KX G k_NoChange.gl, fHE, fd_HouseError_init, k_NoChange.ini, k_HE.ty, o_HE, b_HouseError_init⟩
  have h_text_of : HasF l.prog w K mg base (L2N.CX l.prog w) "text_of" 3 ["house", "number"] (sp_text_of ec) := ⟨f_text_of, fd_text_of, ok_text_of F_text_of h_NoText, PySem.W.mg_of KX G a_text_of, F_text_of.kp, b_text_of⟩
  have h_is_text : HasF l.prog w K mg base CX0 "is_text" 1 ["text"] sp_is_text := ⟨f_is_text, fd_is_text, ok_is_text F_is_text T, PySem.W.mg_of KX G a_is_text, F_is_text.kp, b_is_text⟩
  have h_has_number : HasF l.prog w K mg base CX0 "has_number" 1 ["house", "number"] sp_has_number := ⟨f_has_number, fd_has_number, ok_has_number F_has_number T, PySem.W.mg_of KX G a_has_number, F_has_number.kp, b_has_number⟩
  have h_with_text : HasF l.prog w K mg base (L2N.CX l.prog w) "with_text" 3 ["house", "number", "text"] (sp_with_text ec) := ⟨f_with_text, fd_with_text, ok_with_text F_with_text T h_has_number h_is_text h_OutOfRange h_TakenNumber h_BadText h_TooMany, PySem.W.mg_of KX G a_with_text, F_with_text.kp, b_with_text⟩
  have h_without_text : HasF l.prog w K mg base (L2N.CX l.prog w) "without_text" 4 ["house", "number"] (sp_without_text ec) := ⟨f_without_text, fd_without_text, ok_without_text F_without_text h_text_of, PySem.W.mg_of KX G a_without_text, F_without_text.kp, b_without_text⟩
  have h_letters_of : HasF l.prog w K mg base CX0 "letters_of" 4 ["house", "end"] sp_letters_of := ⟨f_letters_of, fd_letters_of, ok_letters_of F_letters_of h_text_of, PySem.W.mg_of KX G a_letters_of, F_letters_of.kp, b_letters_of⟩
  have h_is_end : HasF l.prog w K mg base CX0 "is_end" 4 ["house", "end"] sp_is_end := ⟨f_is_end, fd_is_end, ok_is_end F_is_end T h_has_number h_text_of, PySem.W.mg_of KX G a_is_end, F_is_end.kp, b_is_end⟩
  have h_alike : HasF l.prog w K mg base CX0 "alike" 1 ["one", "two"] sp_alike := ⟨f_alike, fd_alike, ok_alike F_alike T, PySem.W.mg_of KX G a_alike, F_alike.kp, b_alike⟩
  have h_common : HasF l.prog w K mg base CX0 "common" 5 ["house", "one", "two"] sp_common := ⟨f_common, fd_common, ok_common F_common h_is_end h_letters_of h_alike, PySem.W.mg_of KX G a_common, F_common.kp, b_common⟩
  have h_commons_of : HasF l.prog w K mg base CX0 "commons_of" 6 ["house", "order"] sp_commons_of := ⟨f_commons_of, fd_commons_of, ok_commons_of F_commons_of T h_common, PySem.W.mg_of KX G a_commons_of, F_commons_of.kp, b_commons_of⟩
  have h_merged : HasF l.prog w K mg base CX0 "merged" 5 ["house", "one", "two"] sp_merged := ⟨f_merged, fd_merged, ok_merged F_merged T h_letters_of, PySem.W.mg_of KX G a_merged, F_merged.kp, b_merged⟩
  have h_order_with : HasF l.prog w K mg base CX0 "order_with" 6 ["house", "order", "number", "text"] sp_order_with := ⟨f_order_with, fd_order_with, ok_order_with F_order_with T h_with_text h_merged, PySem.W.mg_of KX G a_order_with, F_order_with.kp, b_order_with⟩
  have h_order_without : HasF l.prog w K mg base CX0 "order_without" 5 ["house", "order", "number"] sp_order_without := ⟨f_order_without, fd_order_without, ok_order_without F_order_without h_without_text, PySem.W.mg_of KX G a_order_without, F_order_without.kp, b_order_without⟩
  have h_Node : HasC l.prog w K mg base CX0 "Node" CN 1 ["self", "index", "size", "pair"] (sp_Node_init CN) := ⟨f_Node_init, fd_Node_init, ok_Node_init F_Node_init TN, ⟨k_Node.mks, a_Node_init, i_Node_init, k_Node.kc⟩, PySem.W.mg_of KX G k_Node.gl, b_Node_init⟩
  have h_Builder : HasC l.prog w K mg base CX0 "Builder" CB 3 ["self"] (sp_Builder_init CN CB) := ⟨f_Builder_init, fd_Builder_init, ok_Builder_init F_Builder_init TB h_Node, ⟨k_Builder.mks, a_Builder_init, i_Builder_init, k_Builder.kc⟩, PySem.W.mg_of KX G k_Builder.gl, b_Builder_init⟩
  have h_Builder_new_node : HasM l.prog w K mg base CX0 CB "new_node" 3 ["self", "size", "pair"] (sp_Builder_new_node CN CB) := ⟨⟨f_Builder_new_node, fd_Builder_new_node, ok_Builder_new_node F_Builder_new_node T TB h_Node, ⟨a_Builder_new_node, i_Builder_new_node, F_Builder_new_node.kp⟩, b_Builder_new_node⟩, k_Builder.cls⟩
  have h_Builder_split : HasM l.prog w K mg base CX0 CB "split" 4 ["self", "node", "letter"] (sp_Builder_split CN CB) := ⟨⟨f_Builder_split, fd_Builder_split, ok_Builder_split F_Builder_split T TB TN h_Builder_new_node, ⟨a_Builder_split, i_Builder_split, F_Builder_split.kp⟩, b_Builder_split⟩, k_Builder.cls⟩
  have h_Builder_step : HasM l.prog w K mg base CX0 CB "step" 5 ["self", "last", "letter", "pair"] (sp_Builder_step CN CB) := ⟨⟨f_Builder_step, fd_Builder_step, ok_Builder_step F_Builder_step T TB TN h_Builder_new_node h_Builder_split, ⟨a_Builder_step, i_Builder_step, F_Builder_step.kp⟩, b_Builder_step⟩, k_Builder.cls⟩
  have h_Builder_add_text : HasM l.prog w K mg base CX0 CB "add_text" 6 ["self", "number", "text"] (sp_Builder_add_text CN CB) := ⟨⟨f_Builder_add_text, fd_Builder_add_text, ok_Builder_add_text F_Builder_add_text T TB h_Builder_step, ⟨a_Builder_add_text, i_Builder_add_text, F_Builder_add_text.kp⟩, b_Builder_add_text⟩, k_Builder.cls⟩
  have h_Builder_mark_places : HasM l.prog w K mg base CX0 CB "mark_places" 1 ["self", "number", "text"] (sp_Builder_mark_places CN CB) := ⟨⟨f_Builder_mark_places, fd_Builder_mark_places, ok_Builder_mark_places F_Builder_mark_places T TB TN, ⟨a_Builder_mark_places, i_Builder_mark_places, F_Builder_mark_places.kp⟩, b_Builder_mark_places⟩, k_Builder.cls⟩
  have h_stretch_of : HasF l.prog w K mg base CX0 "stretch_of" 1 ["house", "pair", "size"] sp_stretch_of := ⟨f_stretch_of, fd_stretch_of, ok_stretch_of F_stretch_of, PySem.W.mg_of KX G a_stretch_of, F_stretch_of.kp, b_stretch_of⟩
  have h_shortest_size : HasF l.prog w K mg base CX0 "shortest_size" 1 ["node"] (sp_shortest_size CN CB) := ⟨f_shortest_size, fd_shortest_size, ok_shortest_size F_shortest_size TN, PySem.W.mg_of KX G a_shortest_size, F_shortest_size.kp, b_shortest_size⟩
  have h_Built : HasC l.prog w K mg base CX0 "Built" CT 7 ["self", "house"] (sp_Built_init CN CB CT) := ⟨f_Built_init, fd_Built_init, ok_Built_init F_Built_init T TB TN TT h_Builder h_Builder_add_text h_Builder_mark_places h_stretch_of h_shortest_size, ⟨k_Built.mks, a_Built_init, i_Built_init, k_Built.kc⟩, PySem.W.mg_of KX G k_Built.gl, b_Built_init⟩
  have h_machine_machine : HasF l.prog w K mg base CX0 "machine_machine" 9 ["house"] sp_machine := ⟨f_machine, fd_machine, ok_machine F_machine T TN TT h_Built, PySem.W.mg_of KX G a_machine, F_machine.kp, b_machine⟩
  have h_states : HasF l.prog w K mg base CX0 "states" 9 ["house"] sp_states := ⟨f_states, fd_states, ok_states F_states T TN TT h_Built, PySem.W.mg_of KX G a_states, F_states.kp, b_states⟩
  have h_state_of : HasF l.prog w K mg base CX0 "state_of" 1 ["edges", "word"] sp_state_of := ⟨f_state_of, fd_state_of, ok_state_of F_state_of, PySem.W.mg_of KX G a_state_of, F_state_of.kp, b_state_of⟩
  have h_takes : HasF l.prog w K mg base CX0 "takes" 2 ["edges", "word", "mark"] sp_takes := ⟨f_takes, fd_takes, ok_takes F_takes h_state_of, PySem.W.mg_of KX G a_takes, F_takes.kp, b_takes⟩
  have h_House__settle : HasM l.prog w K mg base CX0 CH "_settle" 10 ["self"] (sp_House__settle CH) := ⟨⟨f_House__settle, fd_House__settle, ok_House__settle F_House__settle TH h_machine_machine h_states h_commons_of, ⟨a_House__settle, i_House__settle, F_House__settle.kp⟩, b_House__settle⟩, k_House.cls⟩
  have h_House : HasC l.prog w K mg base CX0 "House" CH 11 ["self"] (sp_House_init CH) := ⟨f_House_init, fd_House_init, ok_House_init F_House_init TH h_House__settle, ⟨k_House.mks, a_House_init, i_House_init, k_House.kc⟩, PySem.W.mg_of KX G k_House.gl, b_House_init⟩
  have h_House_put : HasM l.prog w K mg base (L2N.CX l.prog w) CH "put" 11 ["self", "number", "text"] (sp_House_put CH ec) := ⟨⟨f_House_put, fd_House_put, ok_House_put F_House_put TH h_with_text h_order_with h_House__settle, ⟨a_House_put, i_House_put, F_House_put.kp⟩, b_House_put⟩, k_House.cls⟩
  have h_House_take : HasM l.prog w K mg base (L2N.CX l.prog w) CH "take" 11 ["self", "number"] (sp_House_take CH ec) := ⟨⟨f_House_take, fd_House_take, ok_House_take F_House_take TH h_text_of h_order_without h_without_text h_House__settle, ⟨a_House_take, i_House_take, F_House_take.kp⟩, b_House_take⟩, k_House.cls⟩
  have h_House_back : HasM l.prog w K mg base (L2N.CX l.prog w) CH "back" 12 ["self"] (sp_House_back CH ec) := ⟨⟨f_House_back, fd_House_back, ok_House_back F_House_back T TH h_NoChange h_House_take h_House_put, ⟨a_House_back, i_House_back, F_House_back.kp⟩, b_House_back⟩, k_House.cls⟩
  have h_House_texts : HasM l.prog w K mg base CX0 CH "texts" 1 ["self"] (sp_House_texts CH) := ⟨⟨f_House_texts, fd_House_texts, ok_House_texts F_House_texts T TH, ⟨a_House_texts, i_House_texts, F_House_texts.kp⟩, b_House_texts⟩, k_House.cls⟩
  have h_House_order : HasM l.prog w K mg base CX0 CH "order" 1 ["self"] (sp_House_order CH) := ⟨⟨f_House_order, fd_House_order, ok_House_order F_House_order T TH, ⟨a_House_order, i_House_order, F_House_order.kp⟩, b_House_order⟩, k_House.cls⟩
  have h_House_history : HasM l.prog w K mg base CX0 CH "history" 1 ["self"] (sp_House_history CH) := ⟨⟨f_House_history, fd_House_history, ok_House_history F_House_history T TH, ⟨a_House_history, i_House_history, F_House_history.kp⟩, b_House_history⟩, k_House.cls⟩
  have h_House_commons : HasM l.prog w K mg base CX0 CH "commons" 1 ["self"] (sp_House_commons CH) := ⟨⟨f_House_commons, fd_House_commons, ok_House_commons F_House_commons T TH, ⟨a_House_commons, i_House_commons, F_House_commons.kp⟩, b_House_commons⟩, k_House.cls⟩
  have h_House_machine : HasM l.prog w K mg base CX0 CH "machine" 1 ["self"] (sp_House_machine CH) := ⟨⟨f_House_machine, fd_House_machine, ok_House_machine F_House_machine T TH, ⟨a_House_machine, i_House_machine, F_House_machine.kp⟩, b_House_machine⟩, k_House.cls⟩
  have h_House_places : HasM l.prog w K mg base CX0 CH "places" 2 ["self", "word"] (sp_House_places CH) := ⟨⟨f_House_places, fd_House_places, ok_House_places F_House_places T TH h_state_of, ⟨a_House_places, i_House_places, F_House_places.kp⟩, b_House_places⟩, k_House.cls⟩
  have h_House_count : HasM l.prog w K mg base CX0 CH "count" 3 ["self", "word"] (sp_House_count CH) := ⟨⟨f_House_count, fd_House_count, ok_House_count F_House_count T TH h_House_places, ⟨a_House_count, i_House_count, F_House_count.kp⟩, b_House_count⟩, k_House.cls⟩
  have h_House_copy : HasM l.prog w K mg base CX0 CH "copy" 13 ["self"] (sp_House_copy CH) := ⟨⟨f_House_copy, fd_House_copy, ok_House_copy F_House_copy T TH h_House h_House__settle, ⟨a_House_copy, i_House_copy, F_House_copy.kp⟩, b_House_copy⟩, k_House.cls⟩
  have h__law_text : HasF l.prog w K mg base CX0 "_law_text" 1 ["_law_drawn", "_law_more", "_law_most"] sp__law_text := ⟨f__law_text, fd__law_text, ok__law_text F__law_text T, PySem.W.mg_of KX G a__law_text, F__law_text.kp, b__law_text⟩
  have h__law_places : HasF l.prog w K mg base CX0 "_law_places" 1 ["_law_texts", "_law_word"] sp__law_places := ⟨f__law_places, fd__law_places, ok__law_places F__law_places T, PySem.W.mg_of KX G a__law_places, F__law_places.kp, b__law_places⟩
  have h__law_number : HasF l.prog w K mg base CX0 "_law_number" 1 ["_law_drawn", "_law_more", "_law_texts"] sp__law_number := ⟨f__law_number, fd__law_number, ok__law_number F__law_number T, PySem.W.mg_of KX G a__law_number, F__law_number.kp, b__law_number⟩
  have h__law_numbers : HasF l.prog w K mg base CX0 "_law_numbers" 1 ["_law_script", "_law_many"] (sp__law_numbers K) := ⟨f__law_numbers, fd__law_numbers, ok__law_numbers F__law_numbers T, PySem.W.mg_of KX G a__law_numbers, F__law_numbers.kp, b__law_numbers⟩
  have h__law_noted : HasF l.prog w K mg base CX0 "_law_noted" 1 ["_law_texts", "_law_after", "_law_history"] sp__law_noted := ⟨f__law_noted, fd__law_noted, ok__law_noted F__law_noted T, PySem.W.mg_of KX G a__law_noted, F__law_noted.kp, b__law_noted⟩
  have h__law_take : HasF l.prog w K mg base CX0 "_law_take" 12 ["_law_house", "_law_texts", "_law_number_here"] (sp__law_take CH) := ⟨f__law_take, fd__law_take, ok__law_take F__law_take TL TH h_House_take, PySem.W.mg_of KX G a__law_take, F__law_take.kp, b__law_take⟩
  have h__law_back : HasF l.prog w K mg base CX0 "_law_back" 13 ["_law_house", "_law_texts", "_law_history"] (sp__law_back CH) := ⟨f__law_back, fd__law_back, ok__law_back F__law_back TL TH h_House_back, PySem.W.mg_of KX G a__law_back, F__law_back.kp, b__law_back⟩
  have h__law_words : HasF l.prog w K mg base CX0 "_law_words" 2 ["_law_texts", "_law_numbers_here", "_law_at"] sp__law_words := ⟨f__law_words, fd__law_words, ok__law_words F__law_words T h__law_text, PySem.W.mg_of KX G a__law_words, F__law_words.kp, b__law_words⟩
  have h__law_answers : HasF l.prog w K mg base CX0 "_law_answers" 4 ["_law_house", "_law_texts", "_law_numbers_here", "_law_at"] (sp__law_answers CH) := ⟨f__law_answers, fd__law_answers, ok__law_answers F__law_answers T TH h_House_machine h_House_places h_House_count h_takes h__law_words h__law_places, PySem.W.mg_of KX G a__law_answers, F__law_answers.kp, b__law_answers⟩
  have h__law_order : HasF l.prog w K mg base CX0 "_law_order" 2 ["_law_house", "_law_texts", "_law_drawn"] (sp__law_order CH) := ⟨f__law_order, fd__law_order, ok__law_order F__law_order T TH h_House_order h_House_commons, PySem.W.mg_of KX G a__law_order, F__law_order.kp, b__law_order⟩
  have h__law_classes : HasF l.prog w K mg base CX0 "_law_classes" 2 ["_law_texts"] sp__law_classes := ⟨f__law_classes, fd__law_classes, ok__law_classes F__law_classes T h__law_places, PySem.W.mg_of KX G a__law_classes, F__law_classes.kp, b__law_classes⟩
  have h__law_edges : HasF l.prog w K mg base CX0 "_law_edges" 1 ["_law_edges_here", "_law_state", "_law_classes_here", "_law_word", "_law_texts"] sp__law_edges := ⟨f__law_edges, fd__law_edges, ok__law_edges F__law_edges T, PySem.W.mg_of KX G a__law_edges, F__law_edges.kp, b__law_edges⟩
  have h__law_machine : HasG l.prog w K mg base "_law_machine" 3 ["_law_edges_here", "_law_texts"] sp__law_machine := ⟨f__law_machine, fd__law_machine, ok__law_machine F__law_machine T h__law_classes h_state_of h__law_edges, PySem.W.mg_of KX G a__law_machine, F__law_machine.kp, b__law_machine⟩
  have h__law_put : HasF l.prog w K mg base CX0 "_law_put" 12 ["_law_house", "_law_texts", "_law_number_here", "_law_text_here"] (sp__law_put CH) := ⟨f__law_put, fd__law_put, ok__law_put F__law_put TL TH h_House_put, PySem.W.mg_of KX G a__law_put, F__law_put.kp, b__law_put⟩
  have h__law_deed : HasF l.prog w K mg base CX0 "_law_deed" 14 ["_law_house", "_law_texts", "_law_history", "_law_numbers_here", "_law_at", "_law_most"] (sp__law_deed CH) := ⟨f__law_deed, fd__law_deed, ok__law_deed F__law_deed T h__law_number h__law_text h__law_put h__law_take h__law_back, PySem.W.mg_of KX G a__law_deed, F__law_deed.kp, b__law_deed⟩
  have h__law_same : HasG l.prog w K mg base "_law_same" 5 ["_law_house", "_law_texts", "_law_history", "_law_numbers_here", "_law_at", "_law_is_short"] (sp__law_same CH) := ⟨f__law_same, fd__law_same, ok__law_same F__law_same T h__law_machine h_House_machine h_House_texts h_House_history h__law_order h__law_answers, PySem.W.mg_of KX G a__law_same, F__law_same.kp, b__law_same⟩
  exact ok_law F_law T h__law_numbers h_House h__law_deed h__law_noted h__law_same h_House_copy
end Sfx
end
open PySem PySem.W PyProof.Rows in
set_option maxRecDepth 100000 in
set_option maxHeartbeats 0 in
theorem PySem.Challenge.cw_suffixhouse_k44_whole_houses_under_chang_holds : PySem.Challenge.rw_suffixhouse_k44_whole_houses_under_chang.Holds := by
  refine hd ?_
  k_fill
  refine Sfx.walk_ofG (l := PySem.Challenge.rw_suffixhouse_k44_whole_houses_under_chang) (n := 63) (k := 15) (x := "_law_script") (sp := fun w => Sfx.sp_law _) rfl (by decide) rfl ⟨rfl, by decide, by decide⟩ (fun w h Y => PySem.W.kIn_of Y) ?F (fun _ _ a ns hl _ hS => ⟨a, ns, rfl, hS, Nat.le_trans hl (by decide), fun _ => rfl⟩)
  intro w mg fa h KX G hmg
  refine' Sfx.all_mk KX G hmg ?k_Node ?k_Builder ?k_Built ?k_House ?n_Node_index ?n_Node_edges ?n_Node_link ?n_Node_size ?n_Node_pairs ?n_Node_pair ?n_Node_number ?n_Builder_start ?n_Builder_nodes ?n_Built_marks ?n_Built_rows ?n_House__texts ?n_House__order ?n_House__history ?n_House__machine ?n_House__states ?n_House__commons ?k_HE ?k_OutOfRange ?k_TakenNumber ?k_BadText ?k_TooMany ?k_NoText ?k_NoChange ?u01 ?u02 ?u03 ?u04 ?u05 ?u10 ?u12 ?u13 ?u14 ?u15 ?u20 ?u21 ?u23 ?u24 ?u25 ?u30 ?u31 ?u32 ?u34 ?u35 ?u40 ?u41 ?u42 ?u43 ?u45 ?u50 ?u51 ?u52 ?u53 ?u54 ?x_n ?x_t ?vV ?z_len ?z_all ?z_ord ?z_sorted ?z_range ?z_min ?z_max ?z_int ?z_abs ?z_dict ?z_list ?z_set ?z_repr ?z_isinstance ?z_ValueError ?c_MOST_TEXTS ?c_MOST_LETTERS ?c_MOST_NUMBER ?g_HouseError_init ?g_text_of ?g_is_text ?g_has_number ?g_with_text ?g_without_text ?g_letters_of ?g_is_end ?g_alike ?g_common ?g_commons_of ?g_merged ?g_order_with ?g_order_without ?g_Node_init ?g_Builder_init ?g_Builder_new_node ?g_Builder_split ?g_Builder_step ?g_Builder_add_text ?g_Builder_mark_places ?g_stretch_of ?g_shortest_size ?g_Built_init ?g_machine ?g_states ?g_state_of ?g_takes ?g_House__settle ?g_House_init ?g_House_put ?g_House_take ?g_House_back ?g_House_texts ?g_House_order ?g_House_history ?g_House_commons ?g_House_machine ?g_House_places ?g_House_count ?g_House_copy ?g__law_text ?g__law_places ?g__law_number ?g__law_numbers ?g__law_noted ?g__law_take ?g__law_back ?g__law_words ?g__law_answers ?g__law_order ?g__law_classes ?g__law_edges ?g__law_machine ?g__law_put ?g__law_deed ?g__law_same ?g_law ?s_
  (case k_Node => refine' Sfx.gc_mk ?y0 ?y1 ?y2 ?y3 ?y4 ?y5 ?y6; (case y0 => k_is); (case y1 => k_is); (case y2 => k_is); (case y3 => k_is); (case y4 => k_is); (case y5 => k_is); (case y6 => k_is))
  (case k_Builder => refine' Sfx.gc_mk ?y0 ?y1 ?y2 ?y3 ?y4 ?y5 ?y6; (case y0 => k_is); (case y1 => k_is); (case y2 => k_is); (case y3 => k_is); (case y4 => k_is); (case y5 => k_is); (case y6 => k_is))
  (case k_Built => refine' Sfx.gc_mk ?y0 ?y1 ?y2 ?y3 ?y4 ?y5 ?y6; (case y0 => k_is); (case y1 => k_is); (case y2 => k_is); (case y3 => k_is); (case y4 => k_is); (case y5 => k_is); (case y6 => k_is))
  (case k_House => refine' Sfx.gc_mk ?y0 ?y1 ?y2 ?y3 ?y4 ?y5 ?y6; (case y0 => k_is); (case y1 => k_is); (case y2 => k_is); (case y3 => k_is); (case y4 => k_is); (case y5 => k_is); (case y6 => k_is))
  (case n_Node_index => unfold L2.NoAttr; k_is)
  (case n_Node_edges => unfold L2.NoAttr; k_is)
  (case n_Node_link => unfold L2.NoAttr; k_is)
  (case n_Node_size => unfold L2.NoAttr; k_is)
  (case n_Node_pairs => unfold L2.NoAttr; k_is)
  (case n_Node_pair => unfold L2.NoAttr; k_is)
  (case n_Node_number => unfold L2.NoAttr; k_is)
  (case n_Builder_start => unfold L2.NoAttr; k_is)
  (case n_Builder_nodes => unfold L2.NoAttr; k_is)
  (case n_Built_marks => unfold L2.NoAttr; k_is)
  (case n_Built_rows => unfold L2.NoAttr; k_is)
  (case n_House__texts => unfold L2.NoAttr; k_is)
  (case n_House__order => unfold L2.NoAttr; k_is)
  (case n_House__history => unfold L2.NoAttr; k_is)
  (case n_House__machine => unfold L2.NoAttr; k_is)
  (case n_House__states => unfold L2.NoAttr; k_is)
  (case n_House__commons => unfold L2.NoAttr; k_is)
  (case k_HE => refine' Sfx.gh_mk ?y0 ?y1 ?y2 ?y3 ?y4 ?y5; (case y0 => k_is); (case y1 => k_is); (case y2 => k_is); (case y3 => k_is); (case y4 => k_is); (case y5 => k_is))
  (case k_OutOfRange => refine' Sfx.gx_mk ?y0 ?y1 ?y2 ?y3 ?y4 ?y5 ?y6 ?y7 ?y8 ?y9 ?y10 ?y11 ?y12 ?y13 ?y14; (case y0 => k_is); (case y1 => k_is); (case y2 => k_is); (case y3 => k_is); (case y4 => k_is); (case y5 => k_is); (case y6 => k_is); (case y7 => k_is); (case y8 => k_is); (case y9 => k_is); (case y10 => k_is); (case y11 => k_is); (case y12 => k_is); (case y13 => k_is); (case y14 => k_is))
  (case k_TakenNumber => refine' Sfx.gx_mk ?y0 ?y1 ?y2 ?y3 ?y4 ?y5 ?y6 ?y7 ?y8 ?y9 ?y10 ?y11 ?y12 ?y13 ?y14; (case y0 => k_is); (case y1 => k_is); (case y2 => k_is); (case y3 => k_is); (case y4 => k_is); (case y5 => k_is); (case y6 => k_is); (case y7 => k_is); (case y8 => k_is); (case y9 => k_is); (case y10 => k_is); (case y11 => k_is); (case y12 => k_is); (case y13 => k_is); (case y14 => k_is))
  (case k_BadText => refine' Sfx.gx_mk ?y0 ?y1 ?y2 ?y3 ?y4 ?y5 ?y6 ?y7 ?y8 ?y9 ?y10 ?y11 ?y12 ?y13 ?y14; (case y0 => k_is); (case y1 => k_is); (case y2 => k_is); (case y3 => k_is); (case y4 => k_is); (case y5 => k_is); (case y6 => k_is); (case y7 => k_is); (case y8 => k_is); (case y9 => k_is); (case y10 => k_is); (case y11 => k_is); (case y12 => k_is); (case y13 => k_is); (case y14 => k_is))
  (case k_TooMany => refine' Sfx.gx_mk ?y0 ?y1 ?y2 ?y3 ?y4 ?y5 ?y6 ?y7 ?y8 ?y9 ?y10 ?y11 ?y12 ?y13 ?y14; (case y0 => k_is); (case y1 => k_is); (case y2 => k_is); (case y3 => k_is); (case y4 => k_is); (case y5 => k_is); (case y6 => k_is); (case y7 => k_is); (case y8 => k_is); (case y9 => k_is); (case y10 => k_is); (case y11 => k_is); (case y12 => k_is); (case y13 => k_is); (case y14 => k_is))
  (case k_NoText => refine' Sfx.gx_mk ?y0 ?y1 ?y2 ?y3 ?y4 ?y5 ?y6 ?y7 ?y8 ?y9 ?y10 ?y11 ?y12 ?y13 ?y14; (case y0 => k_is); (case y1 => k_is); (case y2 => k_is); (case y3 => k_is); (case y4 => k_is); (case y5 => k_is); (case y6 => k_is); (case y7 => k_is); (case y8 => k_is); (case y9 => k_is); (case y10 => k_is); (case y11 => k_is); (case y12 => k_is); (case y13 => k_is); (case y14 => k_is))
  (case k_NoChange => refine' Sfx.gx_mk ?y0 ?y1 ?y2 ?y3 ?y4 ?y5 ?y6 ?y7 ?y8 ?y9 ?y10 ?y11 ?y12 ?y13 ?y14; (case y0 => k_is); (case y1 => k_is); (case y2 => k_is); (case y3 => k_is); (case y4 => k_is); (case y5 => k_is); (case y6 => k_is); (case y7 => k_is); (case y8 => k_is); (case y9 => k_is); (case y10 => k_is); (case y11 => k_is); (case y12 => k_is); (case y13 => k_is); (case y14 => k_is))
  (case u01 => k_is)
  (case u02 => k_is)
  (case u03 => k_is)
  (case u04 => k_is)
  (case u05 => k_is)
  (case u10 => k_is)
  (case u12 => k_is)
  (case u13 => k_is)
  (case u14 => k_is)
  (case u15 => k_is)
  (case u20 => k_is)
  (case u21 => k_is)
  (case u23 => k_is)
  (case u24 => k_is)
  (case u25 => k_is)
  (case u30 => k_is)
  (case u31 => k_is)
  (case u32 => k_is)
  (case u34 => k_is)
  (case u35 => k_is)
  (case u40 => k_is)
  (case u41 => k_is)
  (case u42 => k_is)
  (case u43 => k_is)
  (case u45 => k_is)
  (case u50 => k_is)
  (case u51 => k_is)
  (case u52 => k_is)
  (case u53 => k_is)
  (case u54 => k_is)
  (case x_n => k_is)
  (case x_t => k_is)
  (case vV => k_is)
  (case z_len => k_is)
  (case z_all => k_is)
  (case z_ord => k_is)
  (case z_sorted => k_is)
  (case z_range => k_is)
  (case z_min => k_is)
  (case z_max => k_is)
  (case z_int => k_is)
  (case z_abs => k_is)
  (case z_dict => k_is)
  (case z_list => k_is)
  (case z_set => k_is)
  (case z_repr => k_is)
  (case z_isinstance => k_is)
  (case z_ValueError => k_is)
  (case c_MOST_TEXTS => k_is)
  (case c_MOST_LETTERS => k_is)
  (case c_MOST_NUMBER => k_is)
  (case g_HouseError_init => refine' Sfx.gl_mk ?y0 ?y1 ?y2; (case y0 => k_is); (case y1 => k_is); (case y2 => k_is))
  (case g_text_of => refine' Sfx.gf_mk ?y0 ?y1 ?y2 ?y3; (case y0 => k_is); (case y1 => k_is); (case y2 => k_is); (case y3 => k_is))
  (case g_is_text => refine' Sfx.gf_mk ?y0 ?y1 ?y2 ?y3; (case y0 => k_is); (case y1 => k_is); (case y2 => k_is); (case y3 => k_is))
  (case g_has_number => refine' Sfx.gf_mk ?y0 ?y1 ?y2 ?y3; (case y0 => k_is); (case y1 => k_is); (case y2 => k_is); (case y3 => k_is))
  (case g_with_text => refine' Sfx.gf_mk ?y0 ?y1 ?y2 ?y3; (case y0 => k_is); (case y1 => k_is); (case y2 => k_is); (case y3 => k_is))
  (case g_without_text => refine' Sfx.gf_mk ?y0 ?y1 ?y2 ?y3; (case y0 => k_is); (case y1 => k_is); (case y2 => k_is); (case y3 => k_is))
  (case g_letters_of => refine' Sfx.gf_mk ?y0 ?y1 ?y2 ?y3; (case y0 => k_is); (case y1 => k_is); (case y2 => k_is); (case y3 => k_is))
  (case g_is_end => refine' Sfx.gf_mk ?y0 ?y1 ?y2 ?y3; (case y0 => k_is); (case y1 => k_is); (case y2 => k_is); (case y3 => k_is))
  (case g_alike => refine' Sfx.gf_mk ?y0 ?y1 ?y2 ?y3; (case y0 => k_is); (case y1 => k_is); (case y2 => k_is); (case y3 => k_is))
  (case g_common => refine' Sfx.gf_mk ?y0 ?y1 ?y2 ?y3; (case y0 => k_is); (case y1 => k_is); (case y2 => k_is); (case y3 => k_is))
  (case g_commons_of => refine' Sfx.gf_mk ?y0 ?y1 ?y2 ?y3; (case y0 => k_is); (case y1 => k_is); (case y2 => k_is); (case y3 => k_is))
  (case g_merged => refine' Sfx.gf_mk ?y0 ?y1 ?y2 ?y3; (case y0 => k_is); (case y1 => k_is); (case y2 => k_is); (case y3 => k_is))
  (case g_order_with => refine' Sfx.gf_mk ?y0 ?y1 ?y2 ?y3; (case y0 => k_is); (case y1 => k_is); (case y2 => k_is); (case y3 => k_is))
  (case g_order_without => refine' Sfx.gf_mk ?y0 ?y1 ?y2 ?y3; (case y0 => k_is); (case y1 => k_is); (case y2 => k_is); (case y3 => k_is))
  (case g_Node_init => refine' Sfx.gm_mk ?y0 ?y1 ?y2 ?y3 ?y4; (case y0 => k_is); (case y1 => k_is); (case y2 => k_is); (case y3 => k_is); (case y4 => k_is))
  (case g_Builder_init => refine' Sfx.gm_mk ?y0 ?y1 ?y2 ?y3 ?y4; (case y0 => k_is); (case y1 => k_is); (case y2 => k_is); (case y3 => k_is); (case y4 => k_is))
  (case g_Builder_new_node => refine' Sfx.gm_mk ?y0 ?y1 ?y2 ?y3 ?y4; (case y0 => k_is); (case y1 => k_is); (case y2 => k_is); (case y3 => k_is); (case y4 => k_is))
  (case g_Builder_split => refine' Sfx.gm_mk ?y0 ?y1 ?y2 ?y3 ?y4; (case y0 => k_is); (case y1 => k_is); (case y2 => k_is); (case y3 => k_is); (case y4 => k_is))
  (case g_Builder_step => refine' Sfx.gm_mk ?y0 ?y1 ?y2 ?y3 ?y4; (case y0 => k_is); (case y1 => k_is); (case y2 => k_is); (case y3 => k_is); (case y4 => k_is))
  (case g_Builder_add_text => refine' Sfx.gm_mk ?y0 ?y1 ?y2 ?y3 ?y4; (case y0 => k_is); (case y1 => k_is); (case y2 => k_is); (case y3 => k_is); (case y4 => k_is))
  (case g_Builder_mark_places => refine' Sfx.gm_mk ?y0 ?y1 ?y2 ?y3 ?y4; (case y0 => k_is); (case y1 => k_is); (case y2 => k_is); (case y3 => k_is); (case y4 => k_is))
  (case g_stretch_of => refine' Sfx.gf_mk ?y0 ?y1 ?y2 ?y3; (case y0 => k_is); (case y1 => k_is); (case y2 => k_is); (case y3 => k_is))
  (case g_shortest_size => refine' Sfx.gf_mk ?y0 ?y1 ?y2 ?y3; (case y0 => k_is); (case y1 => k_is); (case y2 => k_is); (case y3 => k_is))
  (case g_Built_init => refine' Sfx.gm_mk ?y0 ?y1 ?y2 ?y3 ?y4; (case y0 => k_is); (case y1 => k_is); (case y2 => k_is); (case y3 => k_is); (case y4 => k_is))
  (case g_machine => refine' Sfx.gf_mk ?y0 ?y1 ?y2 ?y3; (case y0 => k_is); (case y1 => k_is); (case y2 => k_is); (case y3 => k_is))
  (case g_states => refine' Sfx.gf_mk ?y0 ?y1 ?y2 ?y3; (case y0 => k_is); (case y1 => k_is); (case y2 => k_is); (case y3 => k_is))
  (case g_state_of => refine' Sfx.gf_mk ?y0 ?y1 ?y2 ?y3; (case y0 => k_is); (case y1 => k_is); (case y2 => k_is); (case y3 => k_is))
  (case g_takes => refine' Sfx.gf_mk ?y0 ?y1 ?y2 ?y3; (case y0 => k_is); (case y1 => k_is); (case y2 => k_is); (case y3 => k_is))
  (case g_House__settle => refine' Sfx.gm_mk ?y0 ?y1 ?y2 ?y3 ?y4; (case y0 => k_is); (case y1 => k_is); (case y2 => k_is); (case y3 => k_is); (case y4 => k_is))
  (case g_House_init => refine' Sfx.gm_mk ?y0 ?y1 ?y2 ?y3 ?y4; (case y0 => k_is); (case y1 => k_is); (case y2 => k_is); (case y3 => k_is); (case y4 => k_is))
  (case g_House_put => refine' Sfx.gm_mk ?y0 ?y1 ?y2 ?y3 ?y4; (case y0 => k_is); (case y1 => k_is); (case y2 => k_is); (case y3 => k_is); (case y4 => k_is))
  (case g_House_take => refine' Sfx.gm_mk ?y0 ?y1 ?y2 ?y3 ?y4; (case y0 => k_is); (case y1 => k_is); (case y2 => k_is); (case y3 => k_is); (case y4 => k_is))
  (case g_House_back => refine' Sfx.gm_mk ?y0 ?y1 ?y2 ?y3 ?y4; (case y0 => k_is); (case y1 => k_is); (case y2 => k_is); (case y3 => k_is); (case y4 => k_is))
  (case g_House_texts => refine' Sfx.gm_mk ?y0 ?y1 ?y2 ?y3 ?y4; (case y0 => k_is); (case y1 => k_is); (case y2 => k_is); (case y3 => k_is); (case y4 => k_is))
  (case g_House_order => refine' Sfx.gm_mk ?y0 ?y1 ?y2 ?y3 ?y4; (case y0 => k_is); (case y1 => k_is); (case y2 => k_is); (case y3 => k_is); (case y4 => k_is))
  (case g_House_history => refine' Sfx.gm_mk ?y0 ?y1 ?y2 ?y3 ?y4; (case y0 => k_is); (case y1 => k_is); (case y2 => k_is); (case y3 => k_is); (case y4 => k_is))
  (case g_House_commons => refine' Sfx.gm_mk ?y0 ?y1 ?y2 ?y3 ?y4; (case y0 => k_is); (case y1 => k_is); (case y2 => k_is); (case y3 => k_is); (case y4 => k_is))
  (case g_House_machine => refine' Sfx.gm_mk ?y0 ?y1 ?y2 ?y3 ?y4; (case y0 => k_is); (case y1 => k_is); (case y2 => k_is); (case y3 => k_is); (case y4 => k_is))
  (case g_House_places => refine' Sfx.gm_mk ?y0 ?y1 ?y2 ?y3 ?y4; (case y0 => k_is); (case y1 => k_is); (case y2 => k_is); (case y3 => k_is); (case y4 => k_is))
  (case g_House_count => refine' Sfx.gm_mk ?y0 ?y1 ?y2 ?y3 ?y4; (case y0 => k_is); (case y1 => k_is); (case y2 => k_is); (case y3 => k_is); (case y4 => k_is))
  (case g_House_copy => refine' Sfx.gm_mk ?y0 ?y1 ?y2 ?y3 ?y4; (case y0 => k_is); (case y1 => k_is); (case y2 => k_is); (case y3 => k_is); (case y4 => k_is))
  (case g__law_text => refine' Sfx.gf_mk ?y0 ?y1 ?y2 ?y3; (case y0 => k_is); (case y1 => k_is); (case y2 => k_is); (case y3 => k_is))
  (case g__law_places => refine' Sfx.gf_mk ?y0 ?y1 ?y2 ?y3; (case y0 => k_is); (case y1 => k_is); (case y2 => k_is); (case y3 => k_is))
  (case g__law_number => refine' Sfx.gf_mk ?y0 ?y1 ?y2 ?y3; (case y0 => k_is); (case y1 => k_is); (case y2 => k_is); (case y3 => k_is))
  (case g__law_numbers => refine' Sfx.gf_mk ?y0 ?y1 ?y2 ?y3; (case y0 => k_is); (case y1 => k_is); (case y2 => k_is); (case y3 => k_is))
  (case g__law_noted => refine' Sfx.gf_mk ?y0 ?y1 ?y2 ?y3; (case y0 => k_is); (case y1 => k_is); (case y2 => k_is); (case y3 => k_is))
  (case g__law_take => refine' Sfx.gf_mk ?y0 ?y1 ?y2 ?y3; (case y0 => k_is); (case y1 => k_is); (case y2 => k_is); (case y3 => k_is))
  (case g__law_back => refine' Sfx.gf_mk ?y0 ?y1 ?y2 ?y3; (case y0 => k_is); (case y1 => k_is); (case y2 => k_is); (case y3 => k_is))
  (case g__law_words => refine' Sfx.gf_mk ?y0 ?y1 ?y2 ?y3; (case y0 => k_is); (case y1 => k_is); (case y2 => k_is); (case y3 => k_is))
  (case g__law_answers => refine' Sfx.gf_mk ?y0 ?y1 ?y2 ?y3; (case y0 => k_is); (case y1 => k_is); (case y2 => k_is); (case y3 => k_is))
  (case g__law_order => refine' Sfx.gf_mk ?y0 ?y1 ?y2 ?y3; (case y0 => k_is); (case y1 => k_is); (case y2 => k_is); (case y3 => k_is))
  (case g__law_classes => refine' Sfx.gf_mk ?y0 ?y1 ?y2 ?y3; (case y0 => k_is); (case y1 => k_is); (case y2 => k_is); (case y3 => k_is))
  (case g__law_edges => refine' Sfx.gf_mk ?y0 ?y1 ?y2 ?y3; (case y0 => k_is); (case y1 => k_is); (case y2 => k_is); (case y3 => k_is))
  (case g__law_machine => refine' Sfx.gf_mk ?y0 ?y1 ?y2 ?y3; (case y0 => k_is); (case y1 => k_is); (case y2 => k_is); (case y3 => k_is))
  (case g__law_put => refine' Sfx.gf_mk ?y0 ?y1 ?y2 ?y3; (case y0 => k_is); (case y1 => k_is); (case y2 => k_is); (case y3 => k_is))
  (case g__law_deed => refine' Sfx.gf_mk ?y0 ?y1 ?y2 ?y3; (case y0 => k_is); (case y1 => k_is); (case y2 => k_is); (case y3 => k_is))
  (case g__law_same => refine' Sfx.gf_mk ?y0 ?y1 ?y2 ?y3; (case y0 => k_is); (case y1 => k_is); (case y2 => k_is); (case y3 => k_is))
  (case g_law => refine' Sfx.gf_mk ?y0 ?y1 ?y2 ?y3; (case y0 => k_is); (case y1 => k_is); (case y2 => k_is); (case y3 => k_is))
  (case s_ =>
    intro i hi
    have : i = 0 ∨ i = 1 ∨ i = 2 ∨ i = 3 ∨ i = 4 ∨ i = 5 := by omega
    rcases this with rfl | rfl | rfl | rfl | rfl | rfl
    · show PySem.W.subIn _ (.ref _) (.ref _) = some true; k_is
    · show PySem.W.subIn _ (.ref _) (.ref _) = some true; k_is
    · show PySem.W.subIn _ (.ref _) (.ref _) = some true; k_is
    · show PySem.W.subIn _ (.ref _) (.ref _) = some true; k_is
    · show PySem.W.subIn _ (.ref _) (.ref _) = some true; k_is
    · show PySem.W.subIn _ (.ref _) (.ref _) = some true; k_is)
