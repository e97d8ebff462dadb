import PyProof.Rows.All
import Wide.All
import OpenK.AllK
import Wide.FinOn
import HandS.ForMost
import HandS.DictComp
import HandS.TupLen
import HandS.NoneIn
import HandS.Deep
import HandS.TupAny
import HandS.IsInst
import HandS.Sort
import HandS.Conv
import KE.GoesEnum
import PySem.Challenge.RW_aheadcells_k36_whole_distances_and_ways
import HandS.Codes
set_option Elab.async false
set_option linter.all false
set_option maxRecDepth 100000
set_option maxHeartbeats 4000000
/-! The mathematics: least rounds, distances, the table, places. No program here. -/
namespace Ac
/-- a link: the one, the other, the rounds -/
abbrev L3 := Nat × Nat × Nat

/-! ### walks -/
inductive Wk (ls : List L3) : Nat → Nat → Nat → Prop
  | nil (a : Nat) : Wk ls a a 0
  | cons {a c b r w : Nat} : (a, c, r) ∈ ls → Wk ls c b w → Wk ls a b (r + w)
theorem Wk.one {ls : List L3} {a b r : Nat} (h : (a, b, r) ∈ ls) : Wk ls a b r := by
  have := Wk.cons h (Wk.nil b)
  simpa using this
theorem Wk.trans {ls : List L3} {a m b x y : Nat} (h : Wk ls a m x) (k : Wk ls m b y) : Wk ls a b (x + y) := by
  induction h with
  | nil a => simpa using k
  | cons h1 h2 ih =>
    rw [Nat.add_assoc]
    exact .cons h1 (ih k)
theorem Wk.mono {ls ls' : List L3} (hs : ∀ l, l ∈ ls → l ∈ ls') {a b x : Nat} (h : Wk ls a b x) : Wk ls' a b x := by
  induction h with
  | nil a => exact .nil a
  | cons h1 _ ih => exact .cons (hs _ h1) ih
theorem least (P : Nat → Prop) (h : ∃ w, P w) : ∃ w, P w ∧ ∀ v, P v → w ≤ v := by
  obtain ⟨w, hw⟩ := h
  induction w using Nat.strongRecOn with
  | ind w ih =>
    by_cases c : ∃ v, v < w ∧ P v
    · obtain ⟨v, h1, h2⟩ := c
      exact ih v h1 h2
    · refine ⟨w, hw, fun v hv => ?_⟩
      by_cases hlt : v < w
      · exact absurd ⟨v, hlt, hv⟩ c
      · omega

/-! ### the least rounds -/
open Classical in
noncomputable def lr (ls : List L3) (a b : Nat) : Option Nat := if h : ∃ w, Wk ls a b w then some (Classical.choose (least _ h)) else none
theorem lr_some {ls : List L3} {a b d : Nat} (h : lr ls a b = some d) : Wk ls a b d ∧ ∀ w, Wk ls a b w → d ≤ w := by
  unfold lr at h
  split at h
  · rename_i hw
    have e := Option.some.inj h
    have s := Classical.choose_spec (least _ hw)
    rw [e] at s
    exact s
  · cases h
theorem lr_of {ls : List L3} {a b w : Nat} (h : Wk ls a b w) : ∃ d, lr ls a b = some d ∧ d ≤ w := by
  have hw : ∃ w, Wk ls a b w := ⟨w, h⟩
  refine ⟨Classical.choose (least _ hw), ?_, (Classical.choose_spec (least _ hw)).2 w h⟩
  unfold lr
  rw [dif_pos hw]
theorem lr_eq {ls : List L3} {a b : Nat} {o : Option Nat} (h1 : ∀ d, o = some d → Wk ls a b d) (h2 : ∀ w, Wk ls a b w → ∃ d, o = some d ∧ d ≤ w) : o = lr ls a b := by
  cases ho : o with
  | none =>
    cases hl : lr ls a b with
    | none => rfl
    | some d =>
      obtain ⟨d', e, _⟩ := h2 d (lr_some hl).1
      rw [ho] at e
      cases e
  | some d =>
    obtain ⟨d', e, hle⟩ := lr_of (h1 d ho)
    obtain ⟨d2, e2, hle2⟩ := h2 d' (lr_some e).1
    rw [ho] at e2
    have := Option.some.inj e2
    rw [e]
    have : d = d' := by omega
    rw [this]
theorem lr_link {ls : List L3} {a c b r t : Nat} (h : (a, c, r) ∈ ls) (k : lr ls c b = some t) : ∃ d, lr ls a b = some d ∧ d ≤ r + t := lr_of (.cons h (lr_some k).1)
theorem lr_tri {ls : List L3} {a m b x y : Nat} (h : lr ls a m = some x) (k : lr ls m b = some y) : ∃ d, lr ls a b = some d ∧ d ≤ x + y := lr_of ((lr_some h).1.trans (lr_some k).1)
theorem lr_mono {ls ls' : List L3} (hs : ∀ l, l ∈ ls → l ∈ ls') {a b d : Nat} (h : lr ls a b = some d) : ∃ d', lr ls' a b = some d' ∧ d' ≤ d := lr_of ((lr_some h).1.mono hs)
theorem lr_ext {ls ls' : List L3} (hs : ∀ l, l ∈ ls ↔ l ∈ ls') (a b : Nat) : lr ls a b = lr ls' a b :=
  lr_eq (fun _ h => (lr_some h).1.mono fun l q => (hs l).1 q) fun _ h => lr_of (h.mono fun l q => (hs l).2 q)

/-! ### distances -/
def rds (ns : List L3) (s : Nat) : List (Nat × Nat) := (ns.filter fun l => l.1 == s).map fun l => (l.2.1, l.2.2)
theorem mem_rds {ns : List L3} {s : Nat} {p : Nat × Nat} : p ∈ rds ns s ↔ (s, p.1, p.2) ∈ ns := by
  unfold rds
  rw [List.mem_map]
  constructor
  · rintro ⟨⟨a, b, r⟩, h, rfl⟩
    rw [List.mem_filter] at h
    obtain ⟨h1, h2⟩ := h
    have e : a = s := by simpa using h2
    subst e
    exact h1
  · intro h
    exact ⟨(s, p.1, p.2), List.mem_filter.mpr ⟨h, by simp⟩, rfl⟩
def dstep (f : Nat → Option Nat) (acc : Option Nat) (p : Nat × Nat) : Option Nat :=
  match acc, f p.1 with
  | some a, some t => some (max a (p.2 + t))
  | _, _ => none
def dist (f : Nat → Option Nat) (rd : List (Nat × Nat)) : Option Nat := rd.foldl (dstep f) (some 0)
theorem dstep_none (f : Nat → Option Nat) (p : Nat × Nat) : dstep f none p = none := by
  unfold dstep
  rfl
theorem dfold_none (f : Nat → Option Nat) (rd : List (Nat × Nat)) : rd.foldl (dstep f) none = none := by
  induction rd with
  | nil => rfl
  | cons p r ih => rw [List.foldl_cons, dstep_none, ih]
theorem dfold_some {f : Nat → Option Nat} : ∀ {rd : List (Nat × Nat)} {a d : Nat}, rd.foldl (dstep f) (some a) = some d →
    a ≤ d ∧ (∀ p, p ∈ rd → ∃ t, f p.1 = some t ∧ p.2 + t ≤ d) ∧ (d = a ∨ ∃ p, p ∈ rd ∧ ∃ t, f p.1 = some t ∧ p.2 + t = d)
  | [], a, d, h => by
    have e : a = d := Option.some.inj h
    subst e
    exact ⟨Nat.le_refl _, fun p hp => by simp at hp, .inl rfl⟩
  | p :: r, a, d, h => by
    rw [List.foldl_cons] at h
    cases hf : f p.1 with
    | none =>
      have e : dstep f (some a) p = none := by
        unfold dstep
        rw [hf]
      rw [e, dfold_none] at h
      cases h
    | some t =>
      have e : dstep f (some a) p = some (max a (p.2 + t)) := by
        unfold dstep
        rw [hf]
      rw [e] at h
      obtain ⟨h1, h2, h3⟩ := dfold_some h
      refine ⟨by omega, fun q hq => ?_, ?_⟩
      · rcases List.mem_cons.mp hq with rfl | hq
        · exact ⟨t, hf, by omega⟩
        · exact h2 q hq
      · rcases h3 with h3 | ⟨q, hq, t', h4, h5⟩
        · by_cases c : a ≤ p.2 + t
          · exact .inr ⟨p, List.mem_cons_self, t, hf, by omega⟩
          · exact .inl (by omega)
        · exact .inr ⟨q, List.mem_cons_of_mem _ hq, t', h4, h5⟩
theorem dfold_total {f : Nat → Option Nat} : ∀ {rd : List (Nat × Nat)} {a : Nat}, (∀ p, p ∈ rd → ∃ t, f p.1 = some t) → ∃ d, rd.foldl (dstep f) (some a) = some d
  | [], a, _ => ⟨a, rfl⟩
  | p :: r, a, h => by
    obtain ⟨t, hf⟩ := h p List.mem_cons_self
    have e : dstep f (some a) p = some (max a (p.2 + t)) := by
      unfold dstep
      rw [hf]
    rw [List.foldl_cons, e]
    exact dfold_total fun q hq => h q (List.mem_cons_of_mem _ hq)
theorem dist_some {f : Nat → Option Nat} {rd : List (Nat × Nat)} {d : Nat} (h : dist f rd = some d) :
    (∀ p, p ∈ rd → ∃ t, f p.1 = some t ∧ p.2 + t ≤ d) ∧ (d = 0 ∨ ∃ p, p ∈ rd ∧ ∃ t, f p.1 = some t ∧ p.2 + t = d) := (dfold_some h).2
theorem dist_total {f : Nat → Option Nat} {rd : List (Nat × Nat)} (h : ∀ p, p ∈ rd → ∃ t, f p.1 = some t) : ∃ d, dist f rd = some d := dfold_total h
theorem dist_none {f : Nat → Option Nat} {rd : List (Nat × Nat)} {p : Nat × Nat} (hp : p ∈ rd) (h : f p.1 = none) : dist f rd = none := by
  cases e : dist f rd with
  | none => rfl
  | some d =>
    obtain ⟨t, h1, _⟩ := (dist_some e).1 p hp
    rw [h] at h1
    cases h1
/-- the greatest one of a list that is not empty -/
theorem dist_max {f : Nat → Option Nat} {rd : List (Nat × Nat)} {m : Nat} (h1 : ∀ p, p ∈ rd → ∃ t, f p.1 = some t ∧ p.2 + t ≤ m) (h2 : ∃ p, p ∈ rd ∧ ∃ t, f p.1 = some t ∧ p.2 + t = m) : dist f rd = some m := by
  obtain ⟨d, hd⟩ := dist_total fun p hp => let ⟨t, e, _⟩ := h1 p hp; ⟨t, e⟩
  obtain ⟨a1, a2⟩ := dist_some hd
  obtain ⟨p, hp, t, ht, e⟩ := h2
  obtain ⟨t', ht', hle⟩ := a1 p hp
  rw [ht] at ht'
  have et := Option.some.inj ht'
  have : m ≤ d := by omega
  have : d ≤ m := by
    rcases a2 with a2 | ⟨q, hq, u, hu, eu⟩
    · omega
    · obtain ⟨u', hu', hle'⟩ := h1 q hq
      rw [hu] at hu'
      have := Option.some.inj hu'
      omega
  rw [hd]
  congr
  omega
theorem dist_perm {f : Nat → Option Nat} {rd rd' : List (Nat × Nat)} (h : ∀ p, p ∈ rd ↔ p ∈ rd') : dist f rd = dist f rd' := by
  cases e : dist f rd with
  | none =>
    cases e' : dist f rd' with
    | none => rfl
    | some d =>
      obtain ⟨x, hx⟩ := dist_total (f := f) (rd := rd) fun p hp => let ⟨t, h1, _⟩ := (dist_some e').1 p ((h p).1 hp); ⟨t, h1⟩
      rw [e] at hx
      cases hx
  | some d =>
    obtain ⟨a1, a2⟩ := dist_some e
    obtain ⟨x, hx⟩ := dist_total (f := f) (rd := rd') fun p hp => let ⟨t, h1, _⟩ := a1 p ((h p).2 hp); ⟨t, h1⟩
    obtain ⟨b1, b2⟩ := dist_some hx
    have l1 : d ≤ x := by
      rcases a2 with a2 | ⟨q, hq, u, hu, eu⟩
      · omega
      · obtain ⟨u', hu', hle'⟩ := b1 q ((h q).1 hq)
        rw [hu] at hu'
        have := Option.some.inj hu'
        omega
    have l2 : x ≤ d := by
      rcases b2 with a2 | ⟨q, hq, u, hu, eu⟩
      · omega
      · obtain ⟨u', hu', hle'⟩ := a1 q ((h q).2 hq)
        rw [hu] at hu'
        have := Option.some.inj hu'
        omega
    rw [hx]
    congr
    omega
theorem dist_congr {f g : Nat → Option Nat} {rd : List (Nat × Nat)} (h : ∀ x, f x = g x) : dist f rd = dist g rd := by
  have : f = g := funext h
  rw [this]
/-- smaller rounds (up to o more), smaller distance (up to o more) -/
theorem dist_le {f g : Nat → Option Nat} {rd : List (Nat × Nat)} {o d : Nat} (h : ∀ x t, f x = some t → ∃ t', g x = some t' ∧ t' ≤ t + o) (hd : dist f rd = some d) : ∃ d', dist g rd = some d' ∧ d' ≤ d + o := by
  obtain ⟨a1, a2⟩ := dist_some hd
  obtain ⟨x, hx⟩ := dist_total (f := g) (rd := rd) fun p hp => by
    obtain ⟨t, h1, _⟩ := a1 p hp
    obtain ⟨t', h2, _⟩ := h _ _ h1
    exact ⟨t', h2⟩
  refine ⟨x, hx, ?_⟩
  obtain ⟨b1, b2⟩ := dist_some hx
  rcases b2 with b2 | ⟨q, hq, u, hu, eu⟩
  · omega
  · obtain ⟨t, h1, h3⟩ := a1 q hq
    obtain ⟨t', h2, h4⟩ := h _ _ h1
    rw [hu] at h2
    have := Option.some.inj h2
    omega
/-- the distance from a maker to another one -/
noncomputable def ds (ns bs : List L3) (a b : Nat) : Option Nat := dist (fun x => lr (ns ++ bs) x b) (rds ns a)

/-! ### what the law asks -/
theorem ask_least {ns bs : List L3} {a b d : Nat} (hm : ∃ p, p ∈ rds ns a) (h : ds ns bs a b = some d) : ∃ t, lr (ns ++ bs) a b = some t ∧ t ≤ d := by
  obtain ⟨p, hp⟩ := hm
  obtain ⟨t, h1, h2⟩ := (dist_some h).1 p hp
  obtain ⟨e, h3, h4⟩ := lr_link (a := a) (List.mem_append_left bs (mem_rds.mp hp)) h1
  exact ⟨e, h3, by omega⟩
theorem ask_third {ns bs : List L3} {a m b d o : Nat} (h : ds ns bs a m = some d) (k : lr (ns ++ bs) m b = some o) : ∃ e, ds ns bs a b = some e ∧ e ≤ d + o :=
  dist_le (f := fun x => lr (ns ++ bs) x m) (g := fun x => lr (ns ++ bs) x b) (fun x t ht => lr_tri ht k) h
theorem ask_more {ns bs : List L3} {l : L3} {a b d : Nat} (h : ds ns bs a b = some d) : ∃ e, ds ns (bs ++ [l]) a b = some e ∧ e ≤ d :=
  dist_le (o := 0) (f := fun x => lr (ns ++ bs) x b) (g := fun x => lr (ns ++ (bs ++ [l])) x b) (fun x t ht => lr_mono (fun l' hl' => by
    rcases List.mem_append.mp hl' with z | z
    · exact List.mem_append_left _ z
    · exact List.mem_append_right _ (List.mem_append_left _ z)) ht) h
/-- the needs, and the befores that are not among them -/
def plain (ns bs : List L3) : List L3 := ns ++ bs.filter fun l => !decide (l ∈ ns)
theorem mem_plain {ns bs : List L3} (l : L3) : l ∈ [] ++ plain ns bs ↔ l ∈ ns ++ bs := by
  unfold plain
  rw [List.nil_append, List.mem_append, List.mem_append, List.mem_filter]
  constructor
  · rintro (h | ⟨h, _⟩)
    · exact .inl h
    · exact .inr h
  · rintro (h | h)
    · exact .inl h
    · by_cases c : l ∈ ns
      · exact .inl c
      · exact .inr ⟨h, by simp [c]⟩
theorem ask_plain {ns bs : List L3} (a b : Nat) : dist (fun x => lr ([] ++ plain ns bs) x b) (rds ns a) = ds ns bs a b :=
  dist_congr fun x => lr_ext mem_plain x b
theorem plain_nodup {ns bs : List L3} (h1 : ns.Nodup) (h2 : bs.Nodup) : (plain ns bs).Nodup := by
  unfold plain
  rw [List.nodup_append]
  refine ⟨h1, h2.filter _, fun a ha b hb e => ?_⟩
  subst e
  have := (List.mem_filter.mp hb).2
  simp [ha] at this

/-! ### the table -/
def F0 (i j : Nat) : Option Nat := if i = j then some 0 else none
/-- rounds put at a place, if they are fewer -/
def low (o : Option Nat) (r : Nat) : Option Nat :=
  match o with
  | none => some r
  | some d => if r < d then some r else some d
theorem low_le (o : Option Nat) (r : Nat) : ∃ d, low o r = some d ∧ d ≤ r := by
  unfold low
  cases o with
  | none => exact ⟨r, rfl, Nat.le_refl _⟩
  | some d =>
    by_cases c : r < d
    · exact ⟨r, by simp [c], Nat.le_refl _⟩
    · exact ⟨d, by simp [c], by omega⟩
theorem low_old {o : Option Nat} {d : Nat} (r : Nat) (h : o = some d) : ∃ e, low o r = some e ∧ e ≤ d := by
  subst h
  unfold low
  by_cases c : r < d
  · exact ⟨r, by simp [c], by omega⟩
  · exact ⟨d, by simp [c], Nat.le_refl _⟩
theorem low_or {o : Option Nat} {r d : Nat} (h : low o r = some d) : o = some d ∨ d = r := by
  unfold low at h
  cases o with
  | none => exact .inr (Option.some.inj h).symm
  | some e =>
    by_cases c : r < e
    · simp [c] at h
      exact .inr h.symm
    · simp [c] at h
      exact .inl (by rw [h])
def relax (F : Nat → Nat → Option Nat) (l : L3) (i j : Nat) : Option Nat := if i = l.1 ∧ j = l.2.1 then low (F l.1 l.2.1) l.2.2 else F i j
def finit (ls : List L3) : Nat → Nat → Option Nat := ls.foldl relax F0
theorem relax_old {F : Nat → Nat → Option Nat} {l : L3} {i j d : Nat} (h : F i j = some d) : ∃ e, relax F l i j = some e ∧ e ≤ d := by
  unfold relax
  by_cases c : i = l.1 ∧ j = l.2.1
  · rw [if_pos c]
    exact low_old _ (by rw [← c.1, ← c.2]; exact h)
  · rw [if_neg c]
    exact ⟨d, h, Nat.le_refl _⟩
theorem relaxes_old : ∀ {ls : List L3} {F : Nat → Nat → Option Nat} {i j d : Nat}, F i j = some d → ∃ e, ls.foldl relax F i j = some e ∧ e ≤ d
  | [], F, i, j, d, h => ⟨d, h, Nat.le_refl _⟩
  | l :: r, F, i, j, d, h => by
    obtain ⟨e, h1, h2⟩ := relax_old (l := l) h
    obtain ⟨e', h3, h4⟩ := relaxes_old (ls := r) h1
    exact ⟨e', h3, by omega⟩
theorem relaxes_link : ∀ {ls : List L3} {F : Nat → Nat → Option Nat} {a b r : Nat}, (a, b, r) ∈ ls → ∃ e, ls.foldl relax F a b = some e ∧ e ≤ r
  | l :: q, F, a, b, r, h => by
    rcases List.mem_cons.mp h with e | h
    · subst e
      have h1 : ∃ e, relax F (a, b, r) a b = some e ∧ e ≤ r := by
        unfold relax
        rw [if_pos ⟨rfl, rfl⟩]
        exact low_le _ _
      obtain ⟨e, h1, h2⟩ := h1
      obtain ⟨e', h3, h4⟩ := relaxes_old (ls := q) h1
      exact ⟨e', h3, by omega⟩
    · exact relaxes_link (ls := q) h
theorem relaxes_sound {all : List L3} : ∀ {ls : List L3} {F : Nat → Nat → Option Nat}, (∀ l, l ∈ ls → l ∈ all) → (∀ i j d, F i j = some d → Wk all i j d) → ∀ i j d, ls.foldl relax F i j = some d → Wk all i j d
  | [], F, _, h, i, j, d, e => h i j d e
  | l :: r, F, hs, h, i, j, d, e => by
    refine relaxes_sound (ls := r) (F := relax F l) (fun l' hl' => hs l' (List.mem_cons_of_mem _ hl')) (fun i j d e => ?_) i j d e
    unfold relax at e
    by_cases c : i = l.1 ∧ j = l.2.1
    · rw [if_pos c] at e
      rcases low_or e with e | e
      · rw [c.1, c.2]
        exact h _ _ _ e
      · rw [c.1, c.2, e]
        exact .one (hs _ List.mem_cons_self)
    · rw [if_neg c] at e
      exact h _ _ _ e
theorem F0_sound (all : List L3) (i j d : Nat) (h : F0 i j = some d) : Wk all i j d := by
  unfold F0 at h
  by_cases c : i = j
  · rw [if_pos c] at h
    cases h
    subst c
    exact .nil _
  · rw [if_neg c] at h
    cases h
/-- what one middle step gives -/
def mid (m : Nat) (F : Nat → Nat → Option Nat) (i j : Nat) : Option Nat :=
  match F i m, F m j with
  | some x, some y => low (F i j) (x + y)
  | _, _ => F i j
theorem mid_old {m : Nat} {F : Nat → Nat → Option Nat} {i j d : Nat} (h : F i j = some d) : ∃ e, mid m F i j = some e ∧ e ≤ d := by
  unfold mid
  split
  · exact low_old _ h
  · exact ⟨d, h, Nat.le_refl _⟩
theorem mid_new {m : Nat} {F : Nat → Nat → Option Nat} {i j x y : Nat} (h : F i m = some x) (k : F m j = some y) : ∃ e, mid m F i j = some e ∧ e ≤ x + y := by
  unfold mid
  rw [h, k]
  exact low_le _ _
theorem mid_sound {all : List L3} {m : Nat} {F : Nat → Nat → Option Nat} (h : ∀ i j d, F i j = some d → Wk all i j d) (i j d : Nat) (e : mid m F i j = some d) : Wk all i j d := by
  unfold mid at e
  split at e
  · rename_i x y e1 e2
    rcases low_or e with e | e
    · exact h _ _ _ e
    · rw [e]
      exact (h _ _ _ e1).trans (h _ _ _ e2)
  · exact h _ _ _ e
/-- a row of its own middle stays -/
theorem mid_self {m : Nat} {F : Nat → Nat → Option Nat} (h : F m m = some 0) (j : Nat) : mid m F m j = F m j := by
  unfold mid
  rw [h]
  cases e : F m j with
  | none => rfl
  | some y =>
    show low (some y) (0 + y) = some y
    unfold low
    simp
def fw (F : Nat → Nat → Option Nat) (n : Nat) : Nat → Nat → Option Nat := (List.range n).foldl (fun F m => mid m F) F
theorem fw_succ (F : Nat → Nat → Option Nat) (n : Nat) : fw F (n + 1) = mid n (fw F n) := by
  unfold fw
  rw [List.range_succ, List.foldl_append]
  rfl
theorem fw_sound {all : List L3} {F : Nat → Nat → Option Nat} (h : ∀ i j d, F i j = some d → Wk all i j d) : ∀ n i j d, fw F n i j = some d → Wk all i j d
  | 0, i, j, d, e => h i j d e
  | n + 1, i, j, d, e => by
    rw [fw_succ] at e
    exact mid_sound (fw_sound h n) i j d e
/-- walks whose inner steps are below m -/
inductive WM (ls : List L3) (m : Nat) : Nat → Nat → Nat → Prop
  | nil (a : Nat) : WM ls m a a 0
  | one {a b r : Nat} : (a, b, r) ∈ ls → WM ls m a b r
  | cons {a c b r w : Nat} : (a, c, r) ∈ ls → c < m → WM ls m c b w → WM ls m a b (r + w)
theorem WM.split {ls : List L3} {m a b w : Nat} (h : WM ls (m + 1) a b w) : WM ls m a b w ∨ ∃ x y, x + y ≤ w ∧ WM ls m a m x ∧ WM ls m m b y := by
  induction h with
  | nil a => exact .inl (.nil a)
  | one h => exact .inl (.one h)
  | @cons a c b r w h1 h2 h3 ih =>
    by_cases c' : c < m
    · rcases ih with ih | ⟨x, y, h4, h5, h6⟩
      · exact .inl (.cons h1 c' ih)
      · exact .inr ⟨r + x, y, by omega, .cons h1 c' h5, h6⟩
    · have e : c = m := by omega
      subst e
      rcases ih with ih | ⟨x, y, h4, h5, h6⟩
      · exact .inr ⟨r, w, Nat.le_refl _, .one h1, ih⟩
      · exact .inr ⟨r, y, by omega, .one h1, h6⟩
theorem fw_whole {ls : List L3} {F : Nat → Nat → Option Nat} (h0 : ∀ a, ∃ e, F a a = some e ∧ e ≤ 0) (h1 : ∀ a b r, (a, b, r) ∈ ls → ∃ e, F a b = some e ∧ e ≤ r) : ∀ m a b w, WM ls m a b w → ∃ e, fw F m a b = some e ∧ e ≤ w
  | 0, a, b, w, h => by
    cases h with
    | nil => exact h0 a
    | one h => exact h1 _ _ _ h
    | cons _ h _ => omega
  | m + 1, a, b, w, h => by
    rw [fw_succ]
    rcases h.split with h | ⟨x, y, h4, h5, h6⟩
    · obtain ⟨e, e1, e2⟩ := fw_whole h0 h1 m a b w h
      obtain ⟨e', e3, e4⟩ := mid_old (m := m) e1
      exact ⟨e', e3, by omega⟩
    · obtain ⟨e, e1, e2⟩ := fw_whole h0 h1 m a m x h5
      obtain ⟨e', e3, e4⟩ := fw_whole h0 h1 m m b y h6
      obtain ⟨e'', e5, e6⟩ := mid_new e1 e3
      exact ⟨e'', e5, by omega⟩
theorem Wk.wm {ls : List L3} {n : Nat} (hn : ∀ l, l ∈ ls → l.1 < n ∧ l.2.1 < n) {a b w : Nat} (h : Wk ls a b w) : WM ls n a b w := by
  induction h with
  | nil a => exact .nil a
  | cons h1 _ ih => exact .cons h1 (hn _ h1).2 ih
theorem finit_self (ls : List L3) (a : Nat) : finit ls a a = some 0 := by
  obtain ⟨e, h1, h2⟩ := relaxes_old (ls := ls) (F := F0) (i := a) (j := a) (d := 0) (by unfold F0; rw [if_pos rfl])
  have : e = 0 := by omega
  subst this
  exact h1
theorem fw_self (ls : List L3) (n a : Nat) : fw (finit ls) n a a = some 0 := by
  induction n with
  | zero => exact finit_self ls a
  | succ n ih =>
    rw [fw_succ]
    obtain ⟨e, h1, h2⟩ := mid_old (m := n) ih
    have : e = 0 := by omega
    subst this
    exact h1
/-- THE TABLE holds the least rounds -/
theorem fw_lr {ls : List L3} {n : Nat} (hn : ∀ l, l ∈ ls → l.1 < n ∧ l.2.1 < n) (a b : Nat) : fw (finit ls) n a b = lr ls a b :=
  lr_eq (fun d h => fw_sound (fun i j d h => relaxes_sound (fun _ q => q) (F0_sound ls) i j d h) n a b d h)
    fun w h => fw_whole (fun a => ⟨0, finit_self ls a, Nat.le_refl _⟩) (fun a b r h => relaxes_link h) n a b w (h.wm hn)

/-! ### no ring over no round -/
theorem sub_len : ∀ {xs ys : List Nat}, xs.Nodup → (∀ x, x ∈ xs → x ∈ ys) → xs.length ≤ ys.length
  | [], ys, _, _ => Nat.zero_le _
  | x :: r, ys, h, hs => by
    obtain ⟨h1, h2⟩ := List.nodup_cons.mp h
    have hx := hs x List.mem_cons_self
    have ih := sub_len (ys := ys.erase x) h2 fun z hz => (List.mem_erase_of_ne (fun e => h1 (by rw [← e]; exact hz))).mpr (hs z (List.mem_cons_of_mem _ hz))
    rw [List.length_erase_of_mem hx] at ih
    have : 0 < ys.length := List.length_pos_of_mem hx
    rw [List.length_cons]
    omega
theorem sub_eq {xs ys : List Nat} (h : xs.Nodup) (hs : ∀ x, x ∈ xs → x ∈ ys) (hl : ys.length ≤ xs.length) : ∀ y, y ∈ ys → y ∈ xs := by
  intro y hy
  by_cases c : y ∈ xs
  · exact c
  · have := sub_len (xs := xs) (ys := ys.erase y) h fun z hz => (List.mem_erase_of_ne (fun e => c (by rw [← e]; exact hz))).mpr (hs z hz)
    rw [List.length_erase_of_mem hy] at this
    have : 0 < ys.length := List.length_pos_of_mem hy
    omega
theorem top_of (pl : Nat → Nat) : ∀ {xs : List Nat}, xs ≠ [] → ∃ x, x ∈ xs ∧ ∀ y, y ∈ xs → pl y ≤ pl x
  | [], h => absurd rfl h
  | [x], _ => ⟨x, List.mem_cons_self, fun y hy => by simp at hy; subst hy; exact Nat.le_refl _⟩
  | x :: z :: r, _ => by
    obtain ⟨t, h1, h2⟩ := top_of pl (xs := z :: r) (by simp)
    by_cases c : pl t ≤ pl x
    · refine ⟨x, List.mem_cons_self, fun y hy => ?_⟩
      rcases List.mem_cons.mp hy with rfl | hy
      · exact Nat.le_refl _
      · exact Nat.le_trans (h2 y hy) c
    · refine ⟨t, List.mem_cons_of_mem _ h1, fun y hy => ?_⟩
      rcases List.mem_cons.mp hy with rfl | hy
      · omega
      · exact h2 y hy
/-- steps that all lead on to one another over no round: none -/
theorem none_left {ls : List L3} {pl : Nat → Nat} (hup : ∀ l, l ∈ ls → l.2.2 = 0 → pl l.1 < pl l.2.1) {left last : List Nat} (h : ∀ x, x ∈ last → ∃ l, l ∈ ls ∧ l.1 = x ∧ l.2.1 ∈ left ∧ l.2.2 = 0) (hnd : last.Nodup) (hs : ∀ x, x ∈ last → x ∈ left) (hl : left.length ≤ last.length) : left = [] := by
  by_cases c : left = []
  · exact c
  · obtain ⟨x, hx, ht⟩ := top_of pl c
    obtain ⟨l, h1, h2, h3, h4⟩ := h x (sub_eq hnd hs hl x hx)
    have := hup l h1 h4
    have := ht _ h3
    rw [h2] at *
    omega

/-! ### what is drawn -/
/-- a program's parts are right -/
structure Good (n : Nat) (ns bs : List L3) : Prop where
  n1 : 1 ≤ n
  n12 : n ≤ 12
  okn : ∀ l, l ∈ ns → l.1 < n ∧ l.2.1 < n ∧ l.2.2 ≤ 6
  okb : ∀ l, l ∈ bs → l.1 < n ∧ l.2.1 < n ∧ l.2.2 ≤ 6
  ndn : ns.Nodup
  ndb : bs.Nodup
  ln : ns.length ≤ 40
  lb : bs.length ≤ 40
  up : ∃ pl : Nat → Nat, ∀ l, l ∈ ns ++ bs → l.2.2 = 0 → pl l.1 < pl l.2.1
theorem Good.all {n : Nat} {ns bs : List L3} (G : Good n ns bs) : ∀ l, l ∈ ns ++ bs → l.1 < n ∧ l.2.1 < n := fun l h => by
  rcases List.mem_append.mp h with h | h
  · exact ⟨(G.okn l h).1, (G.okn l h).2.1⟩
  · exact ⟨(G.okb l h).1, (G.okb l h).2.1⟩
theorem Good.more {n : Nat} {ns bs : List L3} (G : Good n ns bs) {l : L3} (h1 : l.1 < n) (h2 : l.2.1 < n) (h3 : l.2.2 ≤ 6) (h0 : 1 ≤ l.2.2) (hn : ¬ l ∈ bs) (hl : bs.length < 40) : Good n ns (bs ++ [l]) := by
  refine ⟨G.n1, G.n12, G.okn, fun k hk => ?_, G.ndn, ?_, G.ln, by simp; omega, ?_⟩
  · rcases List.mem_append.mp hk with hk | hk
    · exact G.okb k hk
    · simp at hk
      subst hk
      exact ⟨h1, h2, h3⟩
  · rw [List.nodup_append]
    refine ⟨G.ndb, by simp, fun a ha b hb e => ?_⟩
    simp at hb
    subst hb
    subst e
    exact hn ha
  · obtain ⟨pl, hp⟩ := G.up
    refine ⟨pl, fun k hk e => ?_⟩
    rw [← List.append_assoc] at hk
    rcases List.mem_append.mp hk with hk | hk
    · exact hp k hk e
    · simp at hk
      subst hk
      omega
theorem Good.plain {n : Nat} {ns bs : List L3} (G : Good n ns bs) (hl : (plain ns bs).length ≤ 40) : Good n [] (plain ns bs) := by
  refine ⟨G.n1, G.n12, fun l h => by simp at h, fun l h => ?_, List.nodup_nil, plain_nodup G.ndn G.ndb, Nat.zero_le _, hl, ?_⟩
  · have h' := (mem_plain l).1 (by simpa using h)
    rcases List.mem_append.mp h' with h | h
    · exact G.okn l h
    · exact G.okb l h
  · obtain ⟨pl, hp⟩ := G.up
    exact ⟨pl, fun l h e => hp l ((mem_plain l).1 h) e⟩
/-- the makers -/
def mks (n : Nat) (ns : List L3) : List Nat := (List.range n).filter fun s => decide (0 < (rds ns s).length)
theorem mem_mks {n : Nat} {ns : List L3} {s : Nat} : s ∈ mks n ns ↔ s < n ∧ 0 < (rds ns s).length := by
  unfold mks
  rw [List.mem_filter, List.mem_range]
  simp
theorem mks_some {n : Nat} {ns : List L3} {s : Nat} (h : s ∈ mks n ns) : ∃ p, p ∈ rds ns s := by
  have := (mem_mks.mp h).2
  cases e : rds ns s with
  | nil => rw [e] at this; simp at this
  | cons p r => exact ⟨p, List.mem_cons_self⟩
end Ac
namespace L2.Ac
open PySem PySem.Spec PyProof.Rows
open _root_.Ac
/-! ### the text -/
def topS (i : Nat) : Stmt := PySem.Challenge.pw_aheadcells_k36_whole_distances_and_ways.main.body.getD i (.Pass ⟨0, 0, 0, 0⟩)
/-- a def of the text, ready to be called: its promise, how its arguments bind, its name -/
structure Cal (P : Program) (w : World) (K : PySem.W.Frag) (mg : Str → Option Value) (base : Heap) (k : Nat) (x : Str) (f : Addr) (fd : FuncData) (ps : List Str) (sp : Sp) : Prop where
  G : FnOk P w K mg base CX0 k f fd ps sp
  b : Binds K fd ps []
  g : mg x = some (.ref f)
  kp : PySem.W.keepIn K (.ref f) = true
theorem pcal {X : Cx} {x : Str} {k : Nat} {f : Addr} {fd : FuncData} {ps : List Str} {sp : Sp} {e : Expr} {es : List Expr} {p pos : Pos} {t : TA} (C : Cal X.prog X.w X.K X.mg X.base k x f fd ps sp) (hr : Room k X.A) (ha : PA X (e :: es) t) (hg : Gl X x := by rfl)
    (hd : (x == ("__debug__" : Str)) = false := by decide) (he : starEach (e :: es) X.env = (false, eval e X.env) :: starEach es X.env := by rfl) (hp : (backTo pos (starEach es X.env)).any (fun y => y.1) = false := by rfl) :
    PE X (.Call (.Name x p) (e :: es) [] pos) (tCall sp [] E0 t) := pe_call C.G hr hg C.g C.kp C.b .nil pass0 ha hd he hp
theorem same_upd {H : Hp} {p : Addr} {o : HO} (h : H p = none) : Same H (upd H p o) := fun b x e => by
  rw [upd_ne (ne_of_none e h)]
  exact e

/-! ### enumerate of a tuple -/
section
variable {v : Value} {o : Obj} {G : Heap → Prop}
theorem enum_new (B : Begins v o G) : Meets (Builtin.«enumerate.__new__» ⟨[.type "enumerate", v], []⟩) fun _ R s => G s.heap ∧
    R (.ok (.ret (.ref (s.heap.push o).objs.size))) { s with heap := (s.heap.push o).push { cls := .type "enumerate", data := .fields #[.none, .bool false, .ref s.heap.objs.size, rawInt 0, .none, .none] } } := by
  refine .of_wp fun prog w A R s h => ?_
  obtain ⟨hp, gs, dr, tk, os⟩ := s
  obtain ⟨hF, h⟩ := h
  have hsub := sub_enumerate
  have it1 : ∀ {A' : Around} {E : Value → Shared → Prop} {Q : Value → Shared → Prop}, Q (.ref hp.objs.size) ⟨hp.push o, gs, dr, tk, os⟩ → wpAny (model prog w) A' (pyIter v) Q E ⟨hp, gs, dr, tk, os⟩ := fun q => B.iter prog w _ _ _ _ hF q
  wp_walk using it1
  refine wpAny_stack_any fun st => wpAny_pure ?_
  split
  · rename_i c _ _ _ _ _
    cases (c == Value.type "enumerate") <;> (wp_walk using it1; exact ⟨_, rfl, h⟩)
  · wp_walk using it1
    exact ⟨_, rfl, h⟩
theorem enum_call {prog : Program} {w : World} {A : Around} {E : Value → Shared → Prop} {s : Shared} {Q : Value → Shared → Prop} (B : Begins v o G) (hF : G s.heap)
    (h : ∀ h', IsEnum h' (s.heap.objs.size + 1) s.heap.objs.size 0 .none → h'.get? s.heap.objs.size = some o → (∀ b u, s.heap.get? b = some u → h'.get? b = some u) → Q (.ref (s.heap.objs.size + 1)) { s with heap := h' }) :
    wpAny (model prog w) A (call (.type "enumerate") [v]) Q E s := by
  refine callType_new F.called_enumerate (by decide) (F.typeCall_enumerate_1 _) (F.newCall_enumerate_1 _) (fun obj => F.args_object_init_2 obj _) F.entry_enumerate_new (enum_new B) ⟨hF, ?_⟩
  have sz : (s.heap.push o).objs.size = s.heap.objs.size + 1 := Heap.size_push ..
  have new := Heap.get?_push_size (s.heap.push o) (o := { cls := .type "enumerate", data := .fields #[.none, .bool false, .ref s.heap.objs.size, rawInt 0, .none, .none] }) rfl
  rw [sz] at new
  show _ ∧ _
  rw [sz]
  exact ⟨⟨_, new, rfl⟩, h _ new (Heap.get?_push_of_some _ (Heap.get?_push_size _ B.free)) fun b u q => Heap.get?_push_of_some _ (Heap.get?_push_of_some _ q)⟩
end
/-- each item of the tuple at a in a new pair with its number -/
def IteT (K : PySem.W.Frag) (a : Addr) : It where
  go := fun i H => ∃ (xs : List V) (x : V), SqT K H a xs ∧ xs[i]? = some x
  yld := fun i H v H' => ∃ (T : Addr) (x : V), v = .ref T ∧ H T = none ∧ H' = upd H T (.tup [.int (i : Nat), x]) ∧ ∀ xs, SqT K H a xs → xs[i]? = some x
  stop := fun i H => ∃ xs : List V, SqT K H a xs ∧ xs.length ≤ i
theorem turn_enumT {P : Program} {w : World} {K : PySem.W.Frag} {elts : List Expr} {kk : Nat} {tpos : Pos} (a e it : Addr) :
    Turn P w K (.Tuple elts kk tpos) (IteT K a) [e, it] e fun i h => (∃ old, IsEnum h e it ((i : Nat) : Int) old) ∧ h.IsTupleIter it a i ∧ e ≠ it where
  mem := List.mem_cons_self
  obj := by
    rintro i h ⟨⟨old, he⟩, ⟨u, hu, _, hd⟩, _⟩ b hb
    rcases List.mem_cons.mp hb with z | z
    · rw [z]
      exact ⟨_, he, fun v q => nomatch q⟩
    · rw [List.mem_singleton.mp z]
      exact ⟨u, hu, fun _ q => by rw [hd] at q; cases q⟩
  keep := by
    rintro i h h' ⟨⟨old, he⟩, hi, hne⟩ k
    exact ⟨⟨old, k e (by simp) _ he⟩, hi.at fun u q => k it (by simp) u q, hne⟩
  item := by
    intro X hP hw hK hc i pins s σ H E I hf st hg
    subst hP hw hK
    obtain ⟨⟨old, he⟩, hit, hne⟩ := st
    obtain ⟨xs, x, hq, hx⟩ := hg
    obtain ⟨its, rv, pt, hz⟩ := I.tuple hq
    obtain ⟨u, hu, ru⟩ := rv.get hx
    have isT : s.heap.IsTuple a its.toArray := pt
    have hel : e < s.heap.objs.size := Heap.lt_size he
    have hil : it < s.heap.objs.size := by
      obtain ⟨_, q, _⟩ := id hit
      exact Heap.lt_size q
    have ae : a ≠ e := by
      intro z
      obtain ⟨ob, e1, c1, _⟩ := id isT
      rw [z] at e1
      have he' : s.heap.get? e = _ := he
      rw [he'] at e1
      cases e1
      have c2 : Value.type "enumerate" = Value.type "tuple" := c1
      injection c2 with c2
      exact absurd c2 (by decide)
    have ai : a ≠ it := by
      intro z
      obtain ⟨ob, e1, c1, _⟩ := id isT
      obtain ⟨ob2, e2, c2, _⟩ := id hit
      rw [z, e2] at e1
      cases e1
      rw [c2] at c1
      injection c1 with c1
      exact absurd c1 (by decide)
    have hi : i < its.toArray.size := by
      rw [List.size_toArray]
      exact (List.getElem?_eq_some_iff.mp hu).1
    refine wpAny_pyNext_enum_itemD (Draws.tuple (A := X.A.in1) (I.ok.hd hc) it a ai its.toArray) he ⟨hit, isT⟩ hi hne (by simp [ae.symm, hne]) fun y h' tk hy ho st' hT hsz hk => ?_
    have ey : y = u := by
      have z : its.toArray[i]? = some u := by simpa using hu
      exact Option.some.inj (hy.symm.trans z)
    subst ey
    refine ⟨_, rfl, wpAny_letOwnedTupleGo_enum (s := { s with heap := h', toks := tk + 1 }) ho fun h'' he' sb => ?_⟩
    have hT2 : h''.get? s.heap.objs.size = some { cls := .type "tuple", data := .seq #[.int i tk, y] } := (sb.2 _ (Nat.ne_of_gt hel)).trans hT
    have new : ObjOk X.prog X.w (upd H s.heap.objs.size (.tup [.int (i : Nat), x])) h'' s.heap.objs.size (.tup [.int (i : Nat), x]) := by
      refine ⟨?_, [.int i tk, y], .cons ⟨_, rfl⟩ (.cons ru .nil), ⟨_, hT2, rfl, _, rfl⟩⟩
      show 2 ≤ sizeLine
      decide
    have I1 : Inv X pins σ (upd H s.heap.objs.size (.tup [.int (i : Nat), x])) { s with heap := h'', toks := tk + 1 } := by
      refine I.turnedNew (ch := [e, it]) (fun b ob hb q => ?_) hf (Nat.le_refl _) new
      have n1 : b ≠ e := fun z => hb (by simp [z])
      have n2 : b ≠ it := fun z => hb (by simp [z])
      exact (sb.2 b n1).trans (hk b ob n1 n2 q)
    refine ⟨.ref s.heap.objs.size, _, I1, rfl, ⟨_, x, rfl, I.hok.fresh (Nat.le_refl _), rfl, fun ys hy => ?_⟩, ⟨⟨y, ?_⟩, st'.1.at fun ob q => (sb.2 it hne.symm).trans q, hne⟩, fun b hb => ?_⟩
    · rw [I.tuple_inj hy hq]
      exact hx
    · have e1 : ((i + 1 : Nat) : Int) = (i : Int) + 1 := by omega
      rw [e1]
      exact he'
    · have hb' : b < s.heap.objs.size := by
        rcases List.mem_cons.mp hb with z | z
        · rw [z]
          exact hel
        · rw [List.mem_singleton.mp z]
          exact hil
      rw [upd_ne (Nat.ne_of_lt hb')]
      exact (hf b hb).1
  done := by
    intro X hP hw hK hc i pins s σ H E I hf st hg
    subst hP hw hK
    obtain ⟨⟨old, he⟩, hit, hne⟩ := st
    obtain ⟨xs, hq, hx⟩ := hg
    obtain ⟨its, rv, pt, hz⟩ := I.tuple hq
    have isT : s.heap.IsTuple a its.toArray := pt
    have ai : a ≠ it := by
      intro z
      obtain ⟨ob, e1, c1, _⟩ := id isT
      obtain ⟨ob2, e2, c2, _⟩ := id hit
      rw [z, e2] at e1
      cases e1
      rw [c2] at c1
      injection c1 with c1
      exact absurd c1 (by decide)
    obtain ⟨f0, f1, f2, f3, f4, f5⟩ := hf it (by simp)
    have hn : its.toArray[i]? = none := by
      rw [List.getElem?_toArray, List.getElem?_eq_none_iff, ← rv.length]
      exact hx
    have D : Draws X.prog X.w X.A.in1 it [it, a] i (fun _ _ => True) fun j h => j = i ∧ h.IsTupleIter it a i ∧ h.IsTuple a its.toArray :=
      { live := by
          rintro j h ⟨_, ⟨ob, q, _⟩, _⟩
          exact ⟨ob, q⟩
        frame := by
          rintro j h h' ⟨q1, q2, q3⟩ k
          exact ⟨q1, q2.at fun ob q => k it (by simp) ob q, q3.at fun ob q => k a (by simp) ob q⟩
        item := by
          rintro j s Q E hj ⟨q1, _⟩
          omega
        done := by
          rintro s Q E ⟨_, q2, q3⟩ hE
          exact wpAny_nextOf_tuple_end (I.ok.hd hc) q2 q3 hn hE }
    exact wpAny_pyNext_enum_endD D he ⟨rfl, hit, isT⟩ fun h' eb => ⟨rfl, I.turned (t' := s.toks) (fun b ob hb q => eb b ob hb q) f0 f1 f3 f4 f5⟩
  self := by
    rintro A i s Q E ⟨⟨_, he⟩, _⟩ h
    exact wpAny_pyIter_enum he h
def iEnumT (K : PySem.W.Frag) (ta : TA) : TI := fun σ H R => ta σ H fun vs H1 => ∃ (a : Addr) (xs : List V), vs = [.ref a] ∧ SqT K H1 a xs ∧ R (IteT K a) H1
theorem pi_enumT {X : Cx} {e : Expr} {ta : TA} {p pos tpos : Pos} {elts : List Expr} {kk : Nat} (hg : Gl X "enumerate") (hm : X.mg "enumerate" = none) (ha : PA X [e] ta) (he : starEach [e] X.env = [(false, eval e X.env)] := by rfl) :
    PI X (.Tuple elts kk tpos) (.Call (.Name "enumerate" p) [e] [] pos) (iEnumT X.K ta) := by
  refine ⟨fun pins s σ H R I h => Call_ (ld_blt I hg hm boot_enumerate (PyProof.Rows.callWith_type1 (thn (ha.run pos pins s σ H _ I h) fun us s1 hq => ?_) he rfl))⟩
  obtain ⟨vs, H1, I1, r1, a, xs, ev, hS, q⟩ := hq
  subst ev
  obtain ⟨u, rfl, ru⟩ := vals1 r1
  obtain rfl : u = .ref a := ru
  obtain ⟨its, rv, pt, hz⟩ := I1.tuple hS
  refine enum_call (begins_tuple a its.toArray) pt fun h' hE hI hk => wpAny_pyIter_enum hE ⟨s1.heap.objs.size + 1, [s1.heap.objs.size + 1, s1.heap.objs.size], _, _, H1, rfl, I1.kept (t' := s1.toks) hk,
    turn_enumT a (s1.heap.objs.size + 1) s1.heap.objs.size, ⟨⟨.none, hE⟩, ⟨_, hI, rfl, rfl⟩, Nat.succ_ne_self _⟩, fun b hb => ?_, q⟩
  have hle : s1.heap.objs.size ≤ b := by
    rcases List.mem_cons.mp hb with z | z
    · rw [z]
      exact Nat.le_succ _
    · rw [List.mem_singleton.mp z]
      exact Nat.le_refl _
  exact I1.fpOk hle (I1.hok.fresh hle)
/-! ### walks by the turn -/
theorem for_walk {J : It} {g : TG} {tb : TS} {D : Ends} {σ : L2.St} {H : Hp} (n : Nat) (Pv : Nat → L2.St → Hp → Prop) (h0 : Pv 0 σ H) (hgo : ∀ i σ H, i < n → Pv i σ H → J.go i H) (hst : ∀ σ H, Pv n σ H → J.stop n H)
    (hs : ∀ i x σ H H', i < n → Pv i σ H → J.yld i H x H' → g x σ H' fun σ2 H2 => tb { D with nx := Pv (i + 1), ct := Pv (i + 1), bk := D.nx } σ2 H2) (hd : ∀ σ H, Pv n σ H → D.nx σ H) :
    ∃ W : Nat → Nat → L2.St → Hp → Prop, (∃ m, W 0 m σ H) ∧ ∀ i m σ H, W i m σ H →
      (J.stop i H ∧ D.nx σ H) ∨ (J.go i H ∧ ∃ N : L2.St → Hp → Prop, (∀ σ' H', N σ' H' → ∃ m', m' < m ∧ W (i + 1) m' σ' H') ∧ ∀ x H', J.yld i H x H' → g x σ H' fun σ2 H2 => tb { D with nx := N, ct := N, bk := D.nx } σ2 H2) := by
  refine ⟨fun i m σ H => i + m = n ∧ Pv i σ H, ⟨n, Nat.zero_add _, h0⟩, ?_⟩
  rintro i m σ H ⟨em, p⟩
  by_cases lt : i < n
  · exact .inr ⟨hgo i σ H lt p, Pv (i + 1), fun σ' H' p' => ⟨m - 1, by omega, by omega, p'⟩, fun x H' y => hs i x σ H H' lt p y⟩
  · obtain rfl : i = n := by omega
    exact .inl ⟨hst σ H p, hd σ H p⟩
theorem lc_walk {J : It} {g : TG} {tt : TT} {te : TE} {vs : List Nat} {σ : L2.St} {H1 : Hp} {D : Addr} {Qd : Hp → Prop} (n : Nat) (Pv : Nat → Hp → Prop) (h0 : Pv 0 (upd H1 D (.lst []))) (hgo : ∀ i H, i < n → Pv i H → J.go i H) (hst : ∀ H, Pv n H → J.stop n H)
    (hs : ∀ i x H H', i < n → Pv i H → J.yld i H x H' → g x (wipe σ vs) H' fun σ2 H2 => wipe σ2 vs = wipe σ vs ∧ tt σ2 H2 fun b H3 =>
      if b = true then te σ2 H3 fun y H4 => ∃ acc, H4 D = some (.lst acc) ∧ acc.length < sizeLine ∧ Pv (i + 1) (upd H4 D (.lst (acc ++ [y]))) else Pv (i + 1) H3) (hd : ∀ H, Pv n H → Qd H) :
    ∃ W : Nat → Nat → Hp → Prop, (∃ m, W 0 m (upd H1 D (.lst []))) ∧ ∀ i m H, W i m H →
      (J.stop i H ∧ Qd H) ∨ (J.go i H ∧ ∃ Nx : Hp → Prop, (∀ H', Nx H' → ∃ m', m' < m ∧ W (i + 1) m' H') ∧ ∀ x H', J.yld i H x H' → g x (wipe σ vs) H' fun σ2 H2 => wipe σ2 vs = wipe σ vs ∧ tt σ2 H2 fun b H3 =>
        if b = true then te σ2 H3 fun y H4 => ∃ acc, H4 D = some (.lst acc) ∧ acc.length < sizeLine ∧ Nx (upd H4 D (.lst (acc ++ [y]))) else Nx H3) := by
  refine ⟨fun i m H => i + m = n ∧ Pv i H, ⟨n, Nat.zero_add _, h0⟩, ?_⟩
  rintro i m H ⟨em, p⟩
  by_cases lt : i < n
  · exact .inr ⟨hgo i H lt p, Pv (i + 1), fun H' p' => ⟨m - 1, by omega, by omega, p'⟩, fun x H' y => hs i x H H' lt p y⟩
  · obtain rfl : i = n := by omega
    exact .inl ⟨hst H p, hd H p⟩
/-- targets: three names, five names -/
abbrev gT2 (K : PySem.W.Frag) (i j : Nat) : TG := gTup K 2 (gCons (gName i) (gCons (gName j) gNil))
abbrev gT3 (K : PySem.W.Frag) (i j k : Nat) : TG := gTup K 3 (gCons (gName i) (gCons (gName j) (gCons (gName k) gNil)))
abbrev gT5 (K : PySem.W.Frag) (i j k l m : Nat) : TG := gTup K 5 (gCons (gName i) (gCons (gName j) (gCons (gName k) (gCons (gName l) (gCons (gName m) gNil)))))
/-- len of a list or a tuple, by its reading -/
abbrev rLenS (K : PySem.W.Frag) : List V → Hp → VK → Prop := fun xs H Q => ∃ p ys, xs = [.ref p] ∧ (SqL K H p ys ∨ SqT K H p ys) ∧ Q (.int ys.length) H
theorem lenS {X : Cx} : CallR X (.builtin "len") (rLenS X.K) := call_len_seq
abbrev rGt0 : R2 := rI0 fun i j => V.bl (decide (j < i))
end L2.Ac
namespace L2.Ac
open PySem PySem.Spec PyProof.Rows
open _root_.Ac
/-! ### a dict comprehension whose keys are tuples -/
section
variable {X : Cx} {pins : List (Addr × Obj)} {σ : St} {H : Hp} {s : Shared}
theorem put_tup {E : Value → Shared → Prop} {D b : Addr} {kvs : List (List Key × V)} {k : List Key} {y v : V} {u r : Value} {Q : Unit → Shared → Prop} (hu : X.A.units + 1 < cLine) (I : Inv X pins σ H s) (hD : H D = some (.dT kvs)) (hb : H b = some (.tup (k.map kV)))
    (hz : kvs.length < sizeLine) (ey : y = .ref b) (ry : RelV y u) (rv : RelV v r) (go : ∀ s', Inv X pins σ (upd H D (.dT (putK kvs k v))) s' → Q () s') : wpAny (model X.prog X.w) X.A (dictSet D u r) Q E s := by
  subst ey
  obtain rfl : u = Value.ref b := ry
  obtain ⟨hl, hsys, xs, kt, od⟩ := dt_of I.hok hD
  have le : (putK kvs k v).length ≤ sizeLine := Nat.le_trans (length_putK kvs k v) hz
  have room : (tupleKind (mixKind X.prog X.w)).room X.A := by
    first
      | exact tupleKind_room hu
      | exact tupleKind_room_in1 hu
      | exact Nat.lt_of_succ_lt hu
  refine wpAny_dictSet_heap (hsz := by rw [← Paired.length kt]; exact hl) room (key_of I.hok hb) od fun h' nd sb => go _ ?_
  obtain ⟨ob, es, ep, g1, g2, g3, g4, _, g5⟩ := nd
  refine d_write I (by rw [hD]; trivial) sb ⟨ob, g1⟩ ⟨le, hsys, _, (kt.put k hb rv).keeps fun c ys ec => ?_, ob, es, ep, g1, g2, g3, g4, g5⟩
  rw [upd_ne (ne_of ec hD fun z => nomatch z)]
  exact ec
end
section
variable {X : Cx}
/-- {k: v for target in iter}, the keys tuples: D the new dict -/
def tDcT (wi : TI) (g : TG) (tk tv : TE) (vs : List Nat) : TE := fun σ H Q => wi σ H fun J H1 => ∀ D, H1 D = none → ∃ W : Nat → Nat → Hp → Prop, (∃ m, W 0 m (upd H1 D (.dT []))) ∧ ∀ i m H, W i m H →
  (J.stop i H ∧ Q (.ref D) H) ∨ (J.go i H ∧ ∃ N : Hp → Prop, (∀ H', N H' → ∃ m', m' < m ∧ W (i + 1) m' H') ∧ ∀ x H', J.yld i H x H' → g x (wipe σ vs) H' fun σ2 H2 => wipe σ2 vs = wipe σ vs ∧
    tk σ2 H2 fun y H4 => tv σ2 H4 fun z H5 => ∃ kvs k b, y = .ref b ∧ H5 b = some (.tup (k.map kV)) ∧ H5 D = some (.dT kvs) ∧ kvs.length < sizeLine ∧ N (upd H5 D (.dT (putK kvs k z))))
theorem pe_dcT {kx vx tg iter : Expr} {scope : Scope} {own : List (Str × Nat)} {pos : Pos} {wi : TI} {g : TG} {tk tv : TE} (hu : X.A.units + 1 < cLine) (hc : X.calm = true) (hN : X.N.Nodup) (hi : PI X tg iter wi) (ok : BlkOk X.N X.env.scope scope own)
    (hg : ∀ (s : Shared) (H : Hp) (C : Addr) (cl : List (Str × Addr)) (fp : List Addr), PG (X.blk s H scope (compEnvC scope cl C X.env) fp) tg g)
    (hk : ∀ (s : Shared) (H : Hp) (C : Addr) (cl : List (Str × Addr)) (fp : List Addr), PE (X.blk s H scope (compEnvC scope cl C X.env) fp) kx tk)
    (hv : ∀ (s : Shared) (H : Hp) (C : Addr) (cl : List (Str × Addr)) (fp : List Addr), PE (X.blk s H scope (compEnvC scope cl C X.env) fp) vx tv) (hs : ∀ x, foldedSetIterable iter X.env x = pure x := by intro _; rfl) :
    PE X (.DictComp kx vx [⟨tg, iter, [], 0⟩] scope pos) (tDcT wi g tk tv (own.map (·.2))) := by
  refine ⟨fun pins s σ H Q I h => ?_⟩
  rw [arm_eval_DictComp]
  have clo : ∀ y ∈ scope.names, y.2 = .free → ∃ c, X.env.cells.lookup y.1 = some c := fun y hy e => (ok.free y hy e).elim (fun q => I.ok.has _ (.inl q)) fun q => I.ok.has _ (.inr q)
  refine wpAny_comprehension_free (use := none) rfl hs (closure_ok clo) ok.kind (fun y hy e => by rw [ok.uniq y hy, e]) (thn (hi.run pins s σ H _ I h) fun xv s1 hx => thn hx fun itv s2 h2 => ?_)
  obtain ⟨it, fp, tn, J, H2, rfl, I2, T, st2, f2, q⟩ := h2
  refine wpAny_newObj_type (newEnv_comp ?_)
  generalize dD : s2.heap.objs.size = D
  have freeD : H2 D = none := I2.hok.fresh (Nat.le_of_eq dD)
  obtain ⟨W, ⟨m0, w0⟩, turn⟩ := q D freeD
  have sml : ∀ b ∈ fp, b < s2.heap.objs.size := fun b hb => let ⟨_, e, _⟩ := T.obj _ _ st2 b hb; Heap.lt_size e
  -- the empty dict is laid
  generalize e3 : ({ s2 with heap := s2.heap.push { cls := .type "dict", data := .dict #[] } } : Shared) = s3
  have hp3 : s3.heap = s2.heap.push { cls := .type "dict", data := .dict #[] } := by rw [← e3]
  have grown : ∀ b o, s2.heap.get? b = some o → s3.heap.get? b = some o := fun b o e => by
    rw [hp3]
    exact Heap.get?_push_of_some _ e
  have I3 : Inv X pins σ (upd H2 D (.dT [])) s3 := by
    rw [← e3]
    refine I2.laid (t' := s2.toks) (fun b o e => Heap.get?_push_of_some _ e) (Nat.le_of_eq dD) ?_
    rw [← dD]
    exact dt_empty s2.heap I2.big
  have fp3 : ∀ b ∈ fp, FpOk X pins (upd H2 D (.dT [])) b ∧ b < s3.heap.objs.size := fun b hb => by
    have lt := sml b hb
    constructor
    · refine ⟨?_, (f2 b hb).2⟩
      rw [upd_ne (by rw [← dD]; exact Nat.ne_of_lt lt)]
      exact (f2 b hb).1
    · rw [hp3, Heap.size_push]
      exact Nat.lt_succ_of_lt lt
  have tn3 : tn 0 s3.heap := T.keep _ _ _ st2 fun b _ o e => grown b o e
  show codeAny _ _ (.compStart _ 0 (.ref it) (.ref D) (compEnvC scope (cellsFrom (s3.heap.objs.size + 1) scope.names (cloFrom X.env.cells scope.names [])) s3.heap.objs.size X.env)) (compPost (model X.prog X.w) X.A X.xe none (EP X pins σ Q) (.ref D) s3.heap.objs.size)
    { s3 with heap := pushCells (s3.heap.push { cls := .type "dict", data := .dict #[] }) scope.names }
  have I4 := block_start I3 ok hN fp3
  generalize eH : upd H2 D (.dT []) = H3 at I3 I4 w0 fp3
  -- the block's own context
  generalize eC : compEnvC scope (cellsFrom (s3.heap.objs.size + 1) scope.names (cloFrom X.env.cells scope.names [])) s3.heap.objs.size X.env = ce at I4 ⊢
  have ceL : ce.locals = s3.heap.objs.size := by rw [← eC]; rfl
  have pg : PG (X.blk s3 H3 scope ce fp) tg g := by rw [← eC]; exact hg ..
  have pk : PE (X.blk s3 H3 scope ce fp) kx tk := by rw [← eC]; exact hk ..
  have pw : PE (X.blk s3 H3 scope ce fp) vx tv := by rw [← eC]; exact hv ..
  generalize e4 : ({ s3 with heap := pushCells (s3.heap.push { cls := .type "dict", data := .dict #[] }) scope.names } : Shared) = s4 at I4 ⊢
  have tn4 : tn 0 s4.heap := T.keep _ _ _ tn3 fun b _ o e => by rw [← e4]; exact pushCells_keeps _ _ _ _ (Heap.get?_push_of_some _ e)
  have still : ∀ {σ' : St} {H' : Hp} {s' : Shared}, Inv (X.blk s3 H3 scope ce fp) [] σ' H' s' → (∀ b ∈ fp, H' b = none) → ∀ b ∈ fp, FpOk (X.blk s3 H3 scope ce fp) [] H' b := fun J' nn b hb =>
    ⟨nn b hb, (J'.ok.exf b hb).1, J'.ok.exfs b hb, .inl hb, (J'.ok.exf b hb).2, fun p hp => absurd (show p ∈ ([] : List (Addr × Obj)) ++ [] from hp) (by simp)⟩
  have loop : codeAny (model X.prog X.w) X.A (.compLoop (.DictComp kx vx [⟨tg, iter, [], 0⟩] scope pos) 0 (.ref it) (.ref D) ce) (compPost (model X.prog X.w) X.A X.xe none (EP X pins σ Q) (.ref D) s3.heap.objs.size) s4 := by
    refine compLoop_anyD (fun n s' => ∃ i H', Inv (X.blk s3 H3 scope ce fp) [] (wipe σ (own.map (·.2))) H' s' ∧ tn i s'.heap ∧ (∀ b ∈ fp, H' b = none) ∧ W i n H') ?_ m0 ⟨0, H3, I4, tn4, fun b hb => (fp3 b hb).1.1, w0⟩
    rintro n s5 ⟨i, H5, I5, tn5, fr5, w5⟩
    rcases turn i n H5 w5 with ⟨stop, fin⟩ | ⟨go, N, back, step⟩
    · refine thnF (T.done (X.blk s3 H3 scope ce fp) rfl rfl rfl hc i [] s5 _ H5 (fun _ _ => False) I5 (still I5 fr5) tn5 stop) fun r s6 ⟨er, I6⟩ => ?_
      subst er
      have I7 : Inv X pins σ H5 s6 := I3.call' (ch := fp) I6.os I6.base I6.hok I6.bare fun b hb => let z := (fp3 b hb).1.2; ⟨z.2.2.1, z.1, z.2.2.2.1, z.2.2.2.2⟩
      have freeC : H5 s3.heap.objs.size = none := by
        rw [← ceL]
        exact I6.free
      obtain ⟨mp, hmp, _⟩ := I6.loc
      have hmp : s6.heap.Ns ce.locals mp := hmp
      rw [ceL] at hmp
      refine ⟨mp, hmp, fun h'' sb => ?_⟩
      obtain ⟨c0, c1, c2, c3, c4, c5⟩ := I3.fpOk (H' := H5) (Nat.le_refl _) freeC
      exact ⟨.ref D, H5, I7.turned (t' := s6.toks) (fun b o hb e => (sb.2 b hb).trans e) c0 c1 c3 c4 c5, rfl, fin⟩
    · refine thnF (T.item (X.blk s3 H3 scope ce fp) rfl rfl rfl hc i [] s5 _ H5 (fun _ _ => False) I5 (still I5 fr5) tn5 go) fun r s6 ⟨u, er, h6⟩ => ?_
      subst er
      refine thnF h6 fun _ s7 ⟨x, H7, I7, r7, y7, tn7, fr7⟩ => ?_
      refine thnF (pg.run _ s7 _ H7 x u _ (I7.pinned (still I7 fr7) (T.obj _ _ tn7)) r7 (step x H7 y7)) fun _ s8 ⟨σ8, H8, I8, ew, q8⟩ => ?_
      refine wpAny_tests_nil ?_
      rw [if_pos rfl]
      refine thnF (pk.run _ s8 σ8 H8 _ I8 q8) fun ku s9 ⟨yk, H9, I9, r9, q9⟩ => ?_
      refine thnF (pw.run _ s9 σ8 H9 _ I9 q9) fun vu s10 ⟨yv, H10, I10, r10, kvs, k, b, ey, hb, hD10, hz, nx⟩ => ?_
      refine put_tup (X := X.blk s3 H3 scope ce fp) hu I10 hD10 hb hz ey r9 r10 fun s11 I11 => ?_
      obtain ⟨m', lt, w'⟩ := back _ nx
      have pin' : ∀ b ∈ fp, ∀ o, s7.heap.get? b = some o → s11.heap.get? b = some o ∧ (upd H10 D (.dT (putK kvs k yv))) b = none := fun b hb o e =>
        let z := I11.pin (b, o) (List.mem_append_right _ (List.mem_append_right _ (mem_pinsAt hb e)))
        ⟨z.1, z.2.1⟩
      have len8 : (wipe σ (own.map (·.2))).length = σ8.length := by rw [← ew, wipe_length]
      refine ⟨m', lt, i + 1, _, (I11.unpinned (pins := [])).weak len8 (fun j v e => ?_), T.keep _ _ _ tn7 fun b hb o e => (pin' b hb o e).1, fun b hb => ?_, w'⟩
      · rw [← ew] at e
        exact (wipe_some e).1
      · obtain ⟨o, e, _⟩ := T.obj _ _ tn7 b hb
        exact (pin' b hb o e).2
  exact codeAny_compStart_dict loop (T.self X.A 0 _ _ _ tn4 loop)
/-- name = {k: v for ..} on one line, the name a local, the keys ints or texts -/
theorem ps_setDc {i : Nat} {y : Str} {py : Pos} {kx vx tg iter : Expr} {ifs : List Expr} {scope : Scope} {own : List (Str × Nat)} {pos spos : Pos} {wi : TI} {g : TG} {tt : TT} {tk tv : TE} (hc : X.calm = true) (hN : X.N.Nodup) (hy : X.N[i]? = some y) (hl : X.env.scope.names.lookup y = some .local)
    (hw : swapsWith (.DictComp kx vx [⟨tg, iter, ifs, 0⟩] scope pos) (some (.Name y py)) spos.line X.env = pure true) (hi : PI X tg iter wi) (ok : BlkOk X.N X.env.scope scope own)
    (hg : ∀ (s : Shared) (H : Hp) (C : Addr) (cl : List (Str × Addr)) (fp : List Addr), PG (X.blk s H scope (compEnvC scope cl C X.env) fp) tg g)
    (ht : ∀ (s : Shared) (H : Hp) (C : Addr) (cl : List (Str × Addr)) (fp : List Addr), PTs (X.blk s H scope (compEnvC scope cl C X.env) fp) ifs tt)
    (hk : ∀ (s : Shared) (H : Hp) (C : Addr) (cl : List (Str × Addr)) (fp : List Addr), PE (X.blk s H scope (compEnvC scope cl C X.env) fp) kx tk)
    (hv : ∀ (s : Shared) (H : Hp) (C : Addr) (cl : List (Str × Addr)) (fp : List Addr), PE (X.blk s H scope (compEnvC scope cl C X.env) fp) vx tv) (hs : ∀ x, foldedSetIterable iter X.env x = pure x := by intro _; rfl) :
    PS X (.Assign [.Name y py] (.DictComp kx vx [⟨tg, iter, ifs, 0⟩] scope pos) spos) (tAsg (tDc wi g tt tk tv (own.map (·.2))) (gName i)) := by
  refine ⟨fun pins s σ H D I h => ?_⟩
  rw [exec_Assign_Name_used _ _ _ _ hw]
  refine wpAny_bind (wpAny_standAt (wpAny_bind ?_))
  have core : wpAny (model X.prog X.w) X.A (comprehension (.DictComp kx vx [⟨tg, iter, ifs, 0⟩] scope pos) scope X.env (firstIterPos [⟨tg, iter, ifs, 0⟩] pos) newDict false (eval iter X.env) (some (assign (.Name y py) X.env))) (fun _ s' => SP X pins D .next s') X.xe s := by
    refine dc_core hc hN I hi ok hg ht hk hv hs (show tDc wi g tt tk tv (own.map (·.2)) σ H (fun x H1 => gName i x σ H1 D.nx) from h) fun L C s' m H' J q hn f => ?_
    show wpAny _ _ (assign (.Name y py) X.env (.ref L)) _ _ _
    refine wpAny_assign_Name (store_ok2 (v := V.ref L) J hN hy (.inl hl) rfl (fun s2 J2 ⟨a, sb, ha⟩ => ?_) (.inr hl))
    have apart : C ≠ a := by
      rcases ha with z | z
      · rw [z]
        exact f.2.1
      · exact fun e => f.2.2.2.2.1 y a z e.symm
    refine ⟨m, hn.sameBut sb apart, fun h3 sb3 => ⟨_, H', J2.turned (t' := s2.toks) (fun b o hb e => (sb3.2 b hb).trans e) f.1 f.2.1 f.2.2.2.1 f.2.2.2.2.1 f.2.2.2.2.2, q⟩⟩
  exact wpAny_bind (thn core fun _ s' hq => wpAny_pure (wpAny_pure hq))
theorem swd_true {kx vx : Expr} {gs : List Comprehension} {scope : Scope} {pos py : Pos} {y : Str} {l : Nat} {env : Env} (hk : env.scope.kind = .function) (hy : env.scope.names.lookup y = some .local) (hl : (py.line == pos.line) = true)
    (ha : (scope.names.any fun (n, k) => n == y && (k == .local || k == .cell)) = false) : swapsWith (.DictComp kx vx gs scope pos) (some (.Name y py)) l env = pure true := by
  have b : env.blockKind = .function := by
    unfold Env.blockKind
    rw [hk]
    rfl
  have c : env.kindOf y = some .local := hy
  unfold swapsWith
  simp only [b, c, ha, Expr.pos, hl]
  rfl
/-- over a range: P by the turn and the heap -/
theorem dc_range {lo : Int} {n : Nat} {g : TG} {tt : TT} {tk tv : TE} {vs : List Nat} {σ : L2.St} {H1 : Hp} {D : Addr} {Qd : Hp → Prop} (Pv : Nat → Hp → Prop) (h0 : Pv 0 (upd H1 D (.dK [])))
    (hs : ∀ i H, i < n → Pv i H → g (.int (lo + i)) (wipe σ vs) H fun σ2 H2 => wipe σ2 vs = wipe σ vs ∧ tt σ2 H2 fun b H3 =>
      if b = true then tk σ2 H3 fun y H4 => tv σ2 H4 fun z H5 => ∃ kvs k, y = kV k ∧ H5 D = some (.dK kvs) ∧ kvs.length < sizeLine ∧ Pv (i + 1) (upd H5 D (.dK (putK kvs k z))) else Pv (i + 1) H3) (hd : ∀ H, Pv n H → Qd H) :
    ∃ W : Nat → Nat → Hp → Prop, (∃ m, W 0 m (upd H1 D (.dK []))) ∧ ∀ i m H, W i m H →
      ((Itr lo n).stop i H ∧ Qd H) ∨ ((Itr lo n).go i H ∧ ∃ N : Hp → Prop, (∀ H', N H' → ∃ m', m' < m ∧ W (i + 1) m' H') ∧ ∀ x H', (Itr lo n).yld i H x H' → g x (wipe σ vs) H' fun σ2 H2 => wipe σ2 vs = wipe σ vs ∧ tt σ2 H2 fun b H3 =>
        if b = true then tk σ2 H3 fun y H4 => tv σ2 H4 fun z H5 => ∃ kvs k, y = kV k ∧ H5 D = some (.dK kvs) ∧ kvs.length < sizeLine ∧ N (upd H5 D (.dK (putK kvs k z))) else N H3) := by
  refine ⟨fun i m H => i + m = n ∧ Pv i H, ⟨n, Nat.zero_add _, h0⟩, ?_⟩
  rintro i m H ⟨em, p⟩
  by_cases lt : i < n
  · refine .inr ⟨lt, Pv (i + 1), fun H' p' => ⟨m - 1, by omega, by omega, p'⟩, ?_⟩
    rintro x H' ⟨rfl, rfl⟩
    exact hs i _ lt p
  · obtain rfl : i = n := by omega
    exact .inl ⟨Nat.le_refl _, hd H p⟩
/-- over a tuple that stays: P by the turn and the heap -/
theorem dcT_tup {K : PySem.W.Frag} {a : Addr} {xs : List V} {g : TG} {tk tv : TE} {vs : List Nat} {σ : L2.St} {H1 : Hp} {D : Addr} {Qd : Hp → Prop} (Pv : Nat → Hp → Prop) (h0 : Pv 0 (upd H1 D (.dT []))) (hl : ∀ i H, Pv i H → SqT K H a xs)
    (hs : ∀ i x H, xs[i]? = some x → Pv i H → g x (wipe σ vs) H fun σ2 H2 => wipe σ2 vs = wipe σ vs ∧
      tk σ2 H2 fun y H4 => tv σ2 H4 fun z H5 => ∃ kvs k b, y = .ref b ∧ H5 b = some (.tup (k.map kV)) ∧ H5 D = some (.dT kvs) ∧ kvs.length < sizeLine ∧ Pv (i + 1) (upd H5 D (.dT (putK kvs k z)))) (hd : ∀ H, Pv xs.length H → Qd H) :
    ∃ W : Nat → Nat → Hp → Prop, (∃ m, W 0 m (upd H1 D (.dT []))) ∧ ∀ i m H, W i m H →
      ((Itt K a).stop i H ∧ Qd H) ∨ ((Itt K a).go i H ∧ ∃ N : Hp → Prop, (∀ H', N H' → ∃ m', m' < m ∧ W (i + 1) m' H') ∧ ∀ x H', (Itt K a).yld i H x H' → g x (wipe σ vs) H' fun σ2 H2 => wipe σ2 vs = wipe σ vs ∧
        tk σ2 H2 fun y H4 => tv σ2 H4 fun z H5 => ∃ kvs k b, y = .ref b ∧ H5 b = some (.tup (k.map kV)) ∧ H5 D = some (.dT kvs) ∧ kvs.length < sizeLine ∧ N (upd H5 D (.dT (putK kvs k z)))) := by
  refine ⟨fun i m H => i + m = xs.length ∧ Pv i H, ⟨xs.length, Nat.zero_add _, h0⟩, ?_⟩
  rintro i m H ⟨em, p⟩
  have q := hl i H p
  by_cases lt : i < xs.length
  · refine .inr ⟨⟨xs, xs[i], q, List.getElem?_eq_getElem lt⟩, Pv (i + 1), fun H' p' => ⟨m - 1, by omega, by omega, p'⟩, ?_⟩
    rintro x H' ⟨rfl, y⟩
    exact hs i x _ (y xs q) p
  · obtain rfl : i = xs.length := by omega
    exact .inl ⟨⟨xs, q, Nat.le_refl _⟩, hd H p⟩
end
end L2.Ac
namespace L2.Ac
open PySem PySem.Spec PyProof.Rows
open _root_.Ac
/-! ### what the built-in names hold -/
structure Bi (mg : Str → Option Value) : Prop where
  isinstance : mg "isinstance" = none
  int : mg "int" = none
  bool : mg "bool" = none
  tuple : mg "tuple" = none
  len : mg "len" = none
  all : mg "all" = none
  any : mg "any" = none
  enumerate : mg "enumerate" = none
  range : mg "range" = none
  sorted : mg "sorted" = none
  max : mg "max" = none
  sum : mg "sum" = none
  abs : mg "abs" = none
  list : mg "list" = none
/-! ### data -/
abbrev nV (k : Nat) : V := .int (k : Int)
/-- a link as a tuple -/
def triV (l : L3) : List V := [nV l.1, nV l.2.1, nV l.2.2]
def Tri (H : Hp) (t : Addr) (l : L3) : Prop := H t = some (.tup (triV l))
/-- the addresses as hold, one by one, what ls tells -/
structure Each {α : Type} (R : Addr → α → Prop) (as : List Addr) (ls : List α) : Prop where
  len : as.length = ls.length
  at_ : ∀ (i : Nat) (a : Addr), as[i]? = some a → ∃ l, ls[i]? = some l ∧ R a l
theorem Each.mono {α : Type} {R S : Addr → α → Prop} {as : List Addr} {ls : List α} (h : Each R as ls) (k : ∀ a l, R a l → S a l) : Each S as ls :=
  ⟨h.len, fun i a e => let ⟨l, e1, e2⟩ := h.at_ i a e; ⟨l, e1, k a l e2⟩⟩
theorem Each.nil {α : Type} {R : Addr → α → Prop} : Each R [] ([] : List α) := ⟨rfl, fun i a e => by simp at e⟩
theorem Each.app {α : Type} {R : Addr → α → Prop} {as bs : List Addr} {ls ms : List α} (h : Each R as ls) (k : Each R bs ms) : Each R (as ++ bs) (ls ++ ms) := by
  refine ⟨by rw [List.length_append, List.length_append, h.len, k.len], fun i a e => ?_⟩
  by_cases c : i < as.length
  · rw [List.getElem?_append_left c] at e
    obtain ⟨l, e1, e2⟩ := h.at_ i a e
    exact ⟨l, by rw [List.getElem?_append_left (by rw [← h.len]; exact c)]; exact e1, e2⟩
  · rw [List.getElem?_append_right (by omega)] at e
    obtain ⟨l, e1, e2⟩ := k.at_ _ a e
    exact ⟨l, by rw [List.getElem?_append_right (by rw [← h.len]; omega), ← h.len]; exact e1, e2⟩
theorem Each.snoc {α : Type} {R : Addr → α → Prop} {as : List Addr} {ls : List α} {a : Addr} {l : α} (h : Each R as ls) (k : R a l) : Each R (as ++ [a]) (ls ++ [l]) :=
  h.app ⟨rfl, fun i b e => by
    cases i with
    | zero =>
      have z : a = b := Option.some.inj e
      exact ⟨l, rfl, z ▸ k⟩
    | succ i => simp at e⟩
abbrev Tris (H : Hp) (as : List Addr) (ls : List L3) : Prop := Each (Tri H) as ls
def TupT (H : Hp) (p : Addr) (ls : List L3) : Prop := ∃ as : List Addr, H p = some (.tup (as.map V.ref)) ∧ Tris H as ls
theorem Tri.same {H H' : Hp} {t : Addr} {l : L3} (h : Tri H t l) (s : Same H H') : Tri H' t l := s _ _ h
theorem Tris.same {H H' : Hp} {as : List Addr} {ls : List L3} (h : Tris H as ls) (s : Same H H') : Tris H' as ls := h.mono fun _ _ z => z.same s
theorem TupT.same {H H' : Hp} {p : Addr} {ls : List L3} (h : TupT H p ls) (s : Same H H') : TupT H' p ls := let ⟨as, e1, e2⟩ := h; ⟨as, s _ _ e1, e2.same s⟩
/-- the item at a place of a list of addresses -/
theorem ref_at {as : List Addr} {i : Nat} {x : V} (h : (as.map V.ref)[i]? = some x) : ∃ a, as[i]? = some a ∧ x = .ref a := by
  rw [List.getElem?_map] at h
  cases e : as[i]? with
  | none =>
    rw [e] at h
    cases h
  | some a =>
    rw [e] at h
    exact ⟨a, rfl, (Option.some.inj h).symm⟩
/-- a new object is changed: what stood stands -/
theorem same_put {H H' : Hp} {D : Addr} {o : HO} (nD : H D = none) (sm : Same H H') : Same H (upd H' D o) := fun b x e => by
  rw [upd_ne (ne_of_none e nD)]
  exact sm _ _ e
theorem map_rep {α : Type} (f : α → V) (x : α) (i : Nat) : (List.replicate i x).map f ++ [f x] = (List.replicate (i + 1) x).map f := by
  rw [List.replicate_succ', List.map_append]
  rfl
section
variable {P : Program} {w : World} {K : PySem.W.Frag} {mg : Str → Option Value} {base : Heap}
/-! ### is_integer, is_within -/
abbrev sIsInteger : Stmt := topS 7
abbrev nIsInteger : List Str := ["thing"]
theorem sc_is_integer : FnScope nIsInteger ["thing"] (defScope sIsInteger) := ⟨rfl, rfl, rfl, by decide +kernel, rfl, by decide +kernel, by decide +kernel⟩
def spIsInteger : Sp := fun vs H Q _ => ∃ i : Int, vs = [.int i] ∧ Q (.bl true) H
theorem ok_is_integer {f : Addr} {fd : FuncData} (F : Fun K "is_integer" "is_integer" sIsInteger f fd) (B : Bi mg) : FnOk P w K mg base CX0 1 f fd ["thing"] spIsInteger := by
  refine F.ok sc_is_integer (fun vs H Q E h => ?_) (fun cdv A outer s H vs Q E hr h => ?_)
  · obtain ⟨i, rfl, _⟩ := h
    rfl
  · obtain ⟨i, rfl, q⟩ := h
    refine ⟨_, pss_one (ps_ret (pe_and (pe_callB call_isi (by rfl) B.isinstance boot_isinstance (pa_cons (pv 0) (pa_cons (pe_bltn (v := .ty "int") (by rfl) B.int boot_int rfl) pa_nil)))
      (pe_one (pe_not (pe_callB call_isi (by rfl) B.isinstance boot_isinstance (pa_cons (pv 0) (pa_cons (pe_bltn (v := .ty "bool") (by rfl) B.bool boot_bool rfl) pa_nil))))))), ?_⟩
    refine ⟨_, rfl, _, _, _, _, true, rfl, .ty "int", .base (.int i), kit_ty (by decide +kernel), true, rfl, iteT ?_⟩
    exact ⟨_, rfl, _, _, _, _, false, rfl, .ty "bool", .base (.int i), kit_ty (by decide +kernel), false, rfl, q⟩
abbrev sIsWithin : Stmt := topS 8
theorem sc_is_within : FnScope ["thing", "least", "most"] ["thing", "least", "most"] (defScope sIsWithin) := ⟨rfl, rfl, rfl, by decide +kernel, rfl, by decide +kernel, by decide +kernel⟩
def spIsWithin : Sp := fun vs H Q _ => ∃ i lo hi : Int, vs = [.int i, .int lo, .int hi] ∧ Q (.bl (decide (lo ≤ i ∧ i ≤ hi))) H
theorem ok_is_within {f f1 : Addr} {fd fd1 : FuncData} (F : Fun K "is_within" "is_within" sIsWithin f fd) (C1 : Cal P w K mg base 1 "is_integer" f1 fd1 ["thing"] spIsInteger) : FnOk P w K mg base CX0 2 f fd ["thing", "least", "most"] spIsWithin := by
  refine F.ok sc_is_within (fun vs H Q E h => ?_) (fun cdv A outer s H vs Q E hr h => ?_)
  · obtain ⟨i, lo, hi, rfl, _⟩ := h
    rfl
  · obtain ⟨i, lo, hi, rfl, q⟩ := h
    refine ⟨_, pss_one (ps_ret (pe_and (pcal C1 hr (pa_cons (pv 0) pa_nil)) (pe_one (pe_chain op_le op_le (pv 1) (pv 0) (pv 2))))), ?_⟩
    refine ⟨_, rfl, i, rfl, true, rfl, iteT ?_⟩
    refine ⟨_, rfl, _, rfl, lo, i, rfl, rfl, _, rfl, ite2 (fun e => ?_) (fun e => ?_)⟩
    · refine ⟨_, rfl, i, hi, rfl, rfl, ?_⟩
      have e1 : lo ≤ i := of_decide_eq_true e
      have : decide (lo ≤ i ∧ i ≤ hi) = decide (i ≤ hi) := by
        by_cases c : i ≤ hi
        · rw [decide_eq_true c, decide_eq_true ⟨e1, c⟩]
        · rw [decide_eq_false c, decide_eq_false fun z => c z.2]
      rw [this] at q
      exact q
    · have : decide (lo ≤ i ∧ i ≤ hi) = false := decide_eq_false fun z => e (decide_eq_true z.1)
      rw [this] at q
      exact q
/-! ### is_triple -/
abbrev sIsTriple : Stmt := topS 13
theorem sc_is_triple : FnScope ["thing", "steps"] ["thing", "steps"] (defScope sIsTriple) := ⟨rfl, rfl, rfl, by decide +kernel, rfl, by decide +kernel, by decide +kernel⟩
def spIsTriple : Sp := fun vs H Q _ => ∃ (t : Addr) (n : Nat) (l : L3), vs = [.ref t, nV n] ∧ Tri H t l ∧ (l.1 < n ∧ l.2.1 < n ∧ l.2.2 ≤ 6) ∧ Q (.bl true) H
theorem ok_is_triple {f f1 : Addr} {fd fd1 : FuncData} (F : Fun K "is_triple" "is_triple" sIsTriple f fd) (B : Bi mg) {tk : Tok} (mR : mg "MOST_ROUNDS" = some (.int 6 tk))
    (C1 : Cal P w K mg base 2 "is_within" f1 fd1 ["thing", "least", "most"] spIsWithin) : FnOk P w K mg base CX0 3 f fd ["thing", "steps"] spIsTriple := by
  refine F.ok sc_is_triple (fun vs H Q E h => ?_) (fun cdv A outer s H vs Q E hr h => ?_)
  · obtain ⟨t, n, l, rfl, _⟩ := h
    rfl
  · obtain ⟨t, n, l, rfl, ht, ⟨h1, h2, h3⟩, q⟩ := h
    refine ⟨_, pss_cons (ps_if (PW.pt (pw_or (pt_not (pt_val (pe_callB call_isi (by rfl) B.isinstance boot_isinstance (pa_cons (pv 0) (pa_cons (pe_bltn (v := .ty "tuple") (by rfl) B.tuple boot_tuple rfl) pa_nil)))))
        (pw_or (pt_cmpR op_ne (pe_callB call_len_seq (by rfl) B.len PySem.boot_len (pa_cons (pv 0) pa_nil)) pe_int (nomark _))
        (pw_or1 (pt_not (pt_val (pcal C1 hr (pa_cons (pe_ix ix_tup (pv 0) pe_int (fun _ _ => rfl)) (pa_cons pe_int (pa_cons (pe_glob (v := .int 6) (by rfl) mR ⟨_, rfl⟩) pa_nil)))))))))) pss_never pss_nil)
      (pss_one (ps_ret (pe_and (pcal C1 hr (pa_cons (pe_ix ix_tup (pv 0) pe_int (fun _ _ => rfl)) (pa_cons pe_int (pa_cons (pe_op op_sub (pv 1) pe_int) pa_nil))))
        (pe_one (pcal C1 hr (pa_cons (pe_ix ix_tup (pv 0) pe_int (fun _ _ => rfl)) (pa_cons pe_int (pa_cons (pe_op op_sub (pv 1) pe_int) pa_nil)))))))), ?_⟩
    have hS : SqT K H t (triV l) := SqT.of ht
    refine ⟨_, rfl, _, _, _, _, true, rfl, .ty "tuple", .base (.tup ht), kit_ty (by decide +kernel), true, rfl, iteF ?_⟩
    refine ⟨_, rfl, t, triV l, rfl, .inr hS, rfl, false, rfl, iteF ?_⟩
    refine ⟨_, rfl, t, triV l, 2, nV l.2.2, rfl, rfl, hS, atI_nat (j := 2) rfl, _, _, _, rfl, _, rfl, iteNS (by omega) ?_⟩
    refine ⟨_, rfl, t, triV l, 0, nV l.1, rfl, rfl, hS, atI_nat (j := 0) rfl, nV n, rfl, _, _, rfl, rfl, _, _, _, rfl, _, rfl, ?_⟩
    rw [decide_eq_true (show (0 : Int) ≤ (l.1 : Int) ∧ (l.1 : Int) ≤ (n : Int) - 1 by omega)]
    refine iteT ⟨_, rfl, t, triV l, 1, nV l.2.1, rfl, rfl, hS, atI_nat (j := 1) rfl, nV n, rfl, _, _, rfl, rfl, _, _, _, rfl, ?_⟩
    rw [decide_eq_true (show (0 : Int) ≤ (l.2.1 : Int) ∧ (l.2.1 : Int) ≤ (n : Int) - 1 by omega)]
    exact q
/-! ### are_triples -/
abbrev sAreTriples : Stmt := topS 14
abbrev nAreTriples : List Str := ["thing", "steps", "link"]
theorem sc_are_triples : FnScope nAreTriples ["thing", "steps"] (defScope sAreTriples) := ⟨rfl, rfl, rfl, by decide +kernel, rfl, by decide +kernel, by decide +kernel⟩
def spAreTriples : Sp := fun vs H Q _ => ∃ (p : Addr) (n : Nat) (ls : List L3), vs = [.ref p, nV n] ∧ TupT H p ls ∧ ls.length ≤ 40 ∧ ls.Nodup ∧ (∀ l, l ∈ ls → l.1 < n ∧ l.2.1 < n ∧ l.2.2 ≤ 6) ∧ ∀ H', Same H H' → Q (.bl true) H'
/-- a link as a key -/
def triK (l : L3) : List Key := [.inl (l.1 : Int), .inl (l.2.1 : Int), .inl (l.2.2 : Int)]
theorem triK_map (l : L3) : (triK l).map kV = triV l := rfl
theorem triK_inj {l m : L3} (h : triK l = triK m) : l = m := by
  obtain ⟨a, b, c⟩ := l
  obtain ⟨a', b', c'⟩ := m
  unfold triK at h
  injection h with h1 h
  injection h with h2 h
  injection h with h3 h
  have e1 := Sum.inl.inj h1
  have e2 := Sum.inl.inj h2
  have e3 := Sum.inl.inj h3
  have e1 : (a : Int) = a' := e1
  have e2 : (b : Int) = b' := e2
  have e3 : (c : Int) = c' := e3
  have e1 : a = a' := by omega
  have e2 : b = b' := by omega
  have e3 : c = c' := by omega
  rw [e1, e2, e3]
theorem ok_are_triples {f f1 : Addr} {fd fd1 : FuncData} (F : Fun K "are_triples" "are_triples" sAreTriples f fd) (B : Bi mg) {tk : Tok} (mL : mg "MOST_LINKS" = some (.int 40 tk))
    (C1 : Cal P w K mg base 3 "is_triple" f1 fd1 ["thing", "steps"] spIsTriple) : FnOk P w K mg base CX0 4 f fd ["thing", "steps"] spAreTriples := by
  refine F.ok sc_are_triples (fun vs H Q E h => ?_) (fun cdv A outer s H vs Q E hr h => ?_)
  · obtain ⟨p, n, ls, rfl, _⟩ := h
    rfl
  · obtain ⟨p, n, ls, rfl, ⟨as, hp, T⟩, h40, hnd, hok, q⟩ := h
    refine ⟨_, pss_cons (ps_if (PW.pt (pw_or (pt_not (pt_val (pe_callB call_isi (by rfl) B.isinstance boot_isinstance (pa_cons (pv 0) (pa_cons (pe_bltn (v := .ty "tuple") (by rfl) B.tuple boot_tuple rfl) pa_nil)))))
        (pw_or1 (pt_cmpR op_gt (pe_callB call_len_seq (by rfl) B.len PySem.boot_len (pa_cons (pv 0) pa_nil)) (pe_glob (v := .int 40) (by rfl) mL ⟨_, rfl⟩) (nomark _))))) pss_never pss_nil)
      (pss_cons (ps_if (pt_not (pt_val (pe_callB (cr_all rfl) (by rfl) B.all boot_all (pa_cons (pe_lc (own := [("link", 2)]) (g := gName 2) (tt := tYes) rfl sc_are_triples.nd (pi_tup (pv 0))
          (blkOk_by (N := nAreTriples) (sc := defScope sAreTriples) (by decide +kernel)) (fun _ _ _ _ _ => pg_name (i := 2) sc_are_triples.nd rfl (Or.inl rfl)) (fun _ _ _ _ _ => pts_nil)
          (fun _ _ _ _ _ => pcal C1 hr (pa_cons (pv 2) (pa_cons (pv 1) pa_nil)))) pa_nil)))) pss_never pss_nil)
      (pss_one (ps_ret (pe_cmpR op_eq (pe_callB call_len_dT (by rfl) B.len PySem.boot_len (pa_cons (pe_dcT (own := [("link", 2)]) (g := gName 2) (hu_of hr) rfl sc_are_triples.nd (pi_tup (pv 0))
          (blkOk_by (N := nAreTriples) (sc := defScope sAreTriples) (by decide +kernel)) (fun _ _ _ _ _ => pg_name (i := 2) sc_are_triples.nd rfl (Or.inl rfl)) (fun _ _ _ _ _ => pv 2) (fun _ _ _ _ _ => pe_bl)) pa_nil))
        (pe_callB call_len_seq (by rfl) B.len PySem.boot_len (pa_cons (pv 0) pa_nil)) (nomark _))))), ?_⟩
    have hS : SqT K H p (as.map V.ref) := SqT.of hp
    have lenm : (as.map V.ref).length = ls.length := by rw [List.length_map, T.len]
    refine ⟨_, rfl, _, _, _, _, true, rfl, .ty "tuple", .base (.tup hp), kit_ty (by decide +kernel), true, rfl, iteF ?_⟩
    refine ⟨_, rfl, p, _, rfl, .inr hS, _, _, rfl, rfl, _, rfl, ?_⟩
    refine ite2 (fun e => absurd (of_decide_eq_true e) (by omega)) fun _ => ?_
    refine ⟨_, rfl, p, rfl, ⟨_, hS⟩, fun D nD => lc_tup (K := K) (a := p) (xs := as.map V.ref) (fun i H' => Same H H' ∧ H' D = some (.lst ((List.replicate i true).map V.bl))) ⟨same_upd nD, upd_same⟩ (fun i H' _ z => (SqT.of (z.1 _ _ hp))) ?_ ?_⟩
    · rintro i x H' hx ⟨sm, eD⟩
      obtain ⟨a, ha, rfl⟩ := ref_at hx
      obtain ⟨l, hl, ht⟩ := T.at_ i a ha
      refine ⟨rfl, _, rfl, _, rfl, a, n, l, rfl, ht.same sm, hok l (List.mem_of_getElem? hl), _, eD, ?_, same_put nD sm, ?_⟩
      · rw [List.length_map, List.length_replicate]
        have := (List.getElem?_eq_some_iff.mp ha).1
        rw [List.length_map] at lenm
        exact small1000 (by omega)
      · rw [upd_same, map_rep]
    · rintro H1 ⟨sm, eD⟩
      refine ⟨D, _, rfl, SqL.of eD, _, rfl, ?_⟩
      have ea : (List.replicate (as.map V.ref).length true).all id = true := by
        rw [List.all_eq_true]
        intro b hb
        rw [(List.mem_replicate.mp hb).2]
        rfl
      rw [ea]
      -- the dict's length
      refine ⟨_, rfl, p, rfl, ⟨_, SqT.of (sm _ _ hp)⟩, fun D2 nD2 => dcT_tup (K := K) (a := p) (xs := as.map V.ref) (fun i H' => Same H1 H' ∧ ∃ kvs, H' D2 = some (.dT kvs) ∧ kvs.length = i ∧ ∀ (j : Nat) l, i ≤ j → ls[j]? = some l → valV kvs (triK l) = none)
        ⟨same_upd nD2, [], upd_same, rfl, fun _ _ _ _ => rfl⟩ (fun i H' z => SqT.of (z.1 _ _ (sm _ _ hp))) ?_ ?_⟩
      · rintro i x H' hx ⟨sm2, kvs, eD2, el, hno⟩
        obtain ⟨a, ha, rfl⟩ := ref_at hx
        obtain ⟨l, hl, ht⟩ := T.at_ i a ha
        have hi := (List.getElem?_eq_some_iff.mp hl).1
        refine ⟨rfl, _, rfl, kvs, triK l, a, rfl, (ht.same sm).same sm2, eD2, small1000 (by omega), same_put nD2 sm2, _, upd_same, ?_, fun j m hj hm => ?_⟩
        · rw [putK_new _ (hno i l (Nat.le_refl _) hl), List.length_append, el]
          rfl
        · rw [valV_put, if_neg ?_]
          · exact hno j m (by omega) hm
          · intro z
            have := nd_ix hnd hl (triK_inj z ▸ hm)
            omega
      · rintro H2 ⟨sm2, kvs, eD2, el, _⟩
        refine ⟨D2, kvs, rfl, eD2, _, rfl, p, _, rfl, .inr (SqT.of (sm2 _ _ (sm _ _ hp))), rfl, ?_⟩
        rw [el]
        show Q (.bl (decide (V.int _ = V.int _))) _
        rw [decide_eq_true rfl]
        exact q _ (sm.trans sm2)
end
end L2.Ac
namespace L2.Ac
open PySem PySem.Spec PyProof.Rows
open _root_.Ac
/-! ### links_of -/
/-- a kept link: a link with a word and a number -/
def Lnk (H : Hp) (t : Addr) (l : L3) : Prop := ∃ x y : V, H t = some (.tup [nV l.1, nV l.2.1, nV l.2.2, x, y])
abbrev Lnks (H : Hp) (as : List Addr) (ls : List L3) : Prop := Each (Lnk H) as ls
def LnkT (H : Hp) (p : Addr) (ls : List L3) : Prop := ∃ as : List Addr, H p = some (.tup (as.map V.ref)) ∧ Lnks H as ls
theorem Lnk.same {H H' : Hp} {t : Addr} {l : L3} (h : Lnk H t l) (s : Same H H') : Lnk H' t l := let ⟨x, y, e⟩ := h; ⟨x, y, s _ _ e⟩
theorem Lnks.same {H H' : Hp} {as : List Addr} {ls : List L3} (h : Lnks H as ls) (s : Same H H') : Lnks H' as ls := h.mono fun _ _ z => z.same s
theorem LnkT.same {H H' : Hp} {p : Addr} {ls : List L3} (h : LnkT H p ls) (s : Same H H') : LnkT H' p ls := let ⟨as, e1, e2⟩ := h; ⟨as, s _ _ e1, e2.same s⟩
theorem take_snoc {α : Type} {ls : List α} {i : Nat} {l : α} (h : ls[i]? = some l) : ls.take (i + 1) = ls.take i ++ [l] := by
  rw [List.take_add_one, h]
  rfl
section
variable {P : Program} {w : World} {K : PySem.W.Frag} {mg : Str → Option Value} {base : Heap}
abbrev sLinksOf : Stmt := topS 15
abbrev nLinksOf : List Str := ["needs", "befores", "found", "index", "one", "other", "rounds"]
theorem sc_links_of : FnScope nLinksOf ["needs", "befores"] (defScope sLinksOf) := ⟨rfl, rfl, rfl, by decide +kernel, rfl, by decide +kernel, by decide +kernel⟩
def spLinksOf : Sp := fun vs H Q _ => ∃ (p r : Addr) (ns bs : List L3), vs = [.ref p, .ref r] ∧ TupT H p ns ∧ TupT H r bs ∧ ns.length ≤ 100 ∧ bs.length ≤ 100 ∧ ∀ H' t, Same H H' → H t = none → LnkT H' t (ns ++ bs) → Q (.ref t) H'
/-- one of the two comprehensions: what it gives -/
theorem links_comp {H1 : Hp} {D p : Addr} {as : List Addr} {ls : List L3} {x : V} {σ : L2.St} {te : TE} {Qd : Hp → Prop} (nD : H1 D = none) (hp : H1 p = some (.tup (as.map V.ref))) (T : Tris H1 as ls) (hl : ls.length ≤ 100)
    (hte : ∀ (l : L3) (i : Nat) (H : Hp) (Q : VK), (∀ t, H t = none → Q (.ref t) (upd H t (.tup [nV l.1, nV l.2.1, nV l.2.2, x, nV i]))) → te ((((((wipe σ [3, 4, 5, 6]).set 3 (some (nV i))).set 4 (some (nV l.1))).set 5 (some (nV l.2.1))).set 6 (some (nV l.2.2)))) H Q)
    (hw : ∀ (l : L3) (i : Nat), wipe ((((((wipe σ [3, 4, 5, 6]).set 3 (some (nV i))).set 4 (some (nV l.1))).set 5 (some (nV l.2.1))).set 6 (some (nV l.2.2)))) [3, 4, 5, 6] = wipe σ [3, 4, 5, 6])
    (hd : ∀ H' cs, Same H1 H' → H' D = some (.lst (cs.map V.ref)) → Lnks H' cs ls → Qd H') :
    ∃ W : Nat → Nat → Hp → Prop, (∃ m, W 0 m (upd H1 D (.lst []))) ∧ ∀ i m H, W i m H →
      ((IteT K p).stop i H ∧ Qd H) ∨ ((IteT K p).go i H ∧ ∃ Nx : Hp → Prop, (∀ H', Nx H' → ∃ m', m' < m ∧ W (i + 1) m' H') ∧ ∀ x H', (IteT K p).yld i H x H' → gTup K 2 (gCons (gName 3) (gCons (gT3 K 4 5 6) gNil)) x (wipe σ [3, 4, 5, 6]) H' fun σ2 H2 => wipe σ2 [3, 4, 5, 6] = wipe σ [3, 4, 5, 6] ∧ tYes σ2 H2 fun b H3 =>
        if b = true then te σ2 H3 fun y H4 => ∃ acc, H4 D = some (.lst acc) ∧ acc.length < sizeLine ∧ Nx (upd H4 D (.lst (acc ++ [y]))) else Nx H3) := by
  refine lc_walk as.length (fun i H' => Same H1 H' ∧ ∃ cs : List Addr, H' D = some (.lst (cs.map V.ref)) ∧ Lnks H' cs (ls.take i)) ⟨same_upd nD, [], upd_same, by rw [List.take_zero]; exact .nil⟩
    (fun i H' hi z => ⟨_, .ref as[i], SqT.of (z.1 _ _ hp), by rw [List.getElem?_map, List.getElem?_eq_getElem hi]; rfl⟩) (fun H' z => ⟨_, SqT.of (z.1 _ _ hp), by rw [List.length_map]; exact Nat.le_refl _⟩) ?_ ?_
  · rintro i x0 H' H2 hi ⟨sm, cs, eD, L⟩ ⟨T2, y, rfl, nT2, rfl, fy⟩
    have hi' : as[i]? = some as[i] := List.getElem?_eq_getElem hi
    obtain ⟨l, hl', ht⟩ := T.at_ i _ hi'
    have ey : y = .ref as[i] := by
      have := fy _ (SqT.of (sm _ _ hp))
      rw [List.getElem?_map, hi'] at this
      exact (Option.some.inj this).symm
    subst ey
    have sm2 : Same H' (upd H' T2 (.tup [nV i, .ref as[i]])) := same_upd nT2
    refine ⟨T2, _, rfl, SqT.of upd_same, rfl, nV i, [.ref as[i]], rfl, .ref as[i], [], rfl, ?_⟩
    refine ⟨as[i], triV l, rfl, SqT.of (sm2 _ _ (sm _ _ ht)), rfl, nV l.1, _, rfl, nV l.2.1, _, rfl, nV l.2.2, _, rfl, rfl, rfl, hw l i, hte l i _ _ fun t nt => ?_⟩
    have sm3 := sm2.trans (same_upd (o := .tup [nV l.1, nV l.2.1, nV l.2.2, x, nV i]) nt)
    refine ⟨cs.map V.ref, sm3 _ _ eD, ?_, same_put nD (sm.trans sm3), cs ++ [t], ?_, ?_⟩
    · rw [List.length_map, L.len, List.length_take]
      exact small1000 (by omega)
    · rw [upd_same, List.map_append]
      rfl
    · have smD : ∀ a m, Lnk H' a m → Lnk (upd (upd (upd H' T2 (.tup [nV i, .ref as[i]])) t (.tup [nV l.1, nV l.2.1, nV l.2.2, x, nV i])) D (.lst (cs.map V.ref ++ [.ref t]))) a m := fun a m ⟨u, v, e⟩ => ⟨u, v, by
        rw [upd_ne (ne_of e eD (fun z => nomatch z))]
        exact sm3 _ _ e⟩
      rw [take_snoc hl']
      refine (L.mono smD).snoc ⟨x, nV i, ?_⟩
      have : t ≠ D := (ne_of_none (sm2 _ _ eD) nt).symm
      rw [upd_ne this, upd_same]
  · rintro H' ⟨sm, cs, eD, L⟩
    rw [T.len, List.take_of_length_le (Nat.le_refl _)] at L
    exact hd H' cs sm eD L
theorem ok_links_of {f : Addr} {fd : FuncData} (F : Fun K "links_of" "links_of" sLinksOf f fd) (B : Bi mg) : FnOk P w K mg base CX0 1 f fd ["needs", "befores"] spLinksOf := by
  refine F.ok sc_links_of (fun vs H Q E h => ?_) (fun cdv A outer s H vs Q E hr h => ?_)
  · obtain ⟨p, r, ns, bs, rfl, _⟩ := h
    rfl
  · obtain ⟨p, r, ns, bs, rfl, ⟨as, hp, T⟩, ⟨cs, hr', U⟩, ln, lb, q⟩ := h
    refine ⟨_, pss_cons (ps_setLc (i := 2) (own := [("index", 3), ("one", 4), ("other", 5), ("rounds", 6)]) (g := gTup K 2 (gCons (gName 3) (gCons (gT3 K 4 5 6) gNil))) (tt := tYes) (by rfl) sc_links_of.nd rfl rfl (sw_true rfl rfl rfl (by decide +kernel))
        (pi_enumT (by rfl) B.enumerate (pa_cons (pv 0) pa_nil)) (blkOk_by (N := nLinksOf) (sc := defScope sLinksOf) (by decide +kernel))
        (fun _ _ _ _ _ => pg_tup (by rfl) (pgs_cons (pg_name (i := 3) sc_links_of.nd rfl (Or.inl rfl)) (pgs_cons (pg_tup (by rfl) (pgs_cons (pg_name (i := 4) sc_links_of.nd rfl (Or.inl rfl)) (pgs_cons (pg_name (i := 5) sc_links_of.nd rfl (Or.inl rfl)) (pgs_cons (pg_name (i := 6) sc_links_of.nd rfl (Or.inl rfl)) pgs_nil)))) pgs_nil)))
        (fun _ _ _ _ _ => pts_nil) (fun _ _ _ _ _ => pe_tup (pa_cons (pv 4) (pa_cons (pv 5) (pa_cons (pv 6) (pa_cons pe_str (pa_cons (pv 3) pa_nil)))))))
      (pss_cons (ps_expr (pe_bm PySem.F.plainAttrs_list PySem.F.slot_list_extend PySem.F.type_list_extend mt_extend (pv 2) (pa_cons (pe_lc (own := [("index", 3), ("one", 4), ("other", 5), ("rounds", 6)]) (g := gTup K 2 (gCons (gName 3) (gCons (gT3 K 4 5 6) gNil))) (tt := tYes) (by rfl) sc_links_of.nd
        (pi_enumT (by rfl) B.enumerate (pa_cons (pv 1) pa_nil)) (blkOk_by (N := nLinksOf) (sc := defScope sLinksOf) (by decide +kernel))
        (fun _ _ _ _ _ => pg_tup (by rfl) (pgs_cons (pg_name (i := 3) sc_links_of.nd rfl (Or.inl rfl)) (pgs_cons (pg_tup (by rfl) (pgs_cons (pg_name (i := 4) sc_links_of.nd rfl (Or.inl rfl)) (pgs_cons (pg_name (i := 5) sc_links_of.nd rfl (Or.inl rfl)) (pgs_cons (pg_name (i := 6) sc_links_of.nd rfl (Or.inl rfl)) pgs_nil)))) pgs_nil)))
        (fun _ _ _ _ _ => pts_nil) (fun _ _ _ _ _ => pe_tup (pa_cons (pv 4) (pa_cons (pv 5) (pa_cons (pv 6) (pa_cons pe_str (pa_cons (pv 3) pa_nil))))))) pa_nil)))
      (pss_one (ps_ret (pe_callTy call_tuple_of (by rfl) B.tuple boot_tuple (pa_cons (pv 2) pa_nil))))), ?_⟩
    refine ⟨_, rfl, p, _, rfl, SqT.of hp, fun D nD => links_comp (x := .str "need") nD hp T ln (fun l i H2 Q2 k => ?_) (fun l i => rfl) (fun H1 xs s1 eD L1 => ?_)⟩
    · exact ⟨nV l.1, rfl, nV l.2.1, rfl, nV l.2.2, rfl, nV i, rfl, (by show 5 ≤ sizeLine; decide), k⟩
    · refine ⟨.ref D, rfl, .inl ⟨rfl, _, SqL.of eD⟩, _, rfl, r, _, rfl, SqT.of (s1 _ _ hr'), fun D2 nD2 => links_comp (x := .str "before") nD2 (s1 _ _ hr') (U.same s1) lb (fun l i H2 Q2 k => ?_) (fun l i => rfl) (fun H2 ys s2 eD2 L2 => ?_)⟩
      · exact ⟨nV l.1, rfl, nV l.2.1, rfl, nV l.2.2, rfl, nV i, rfl, (by show 5 ≤ sizeLine; decide), k⟩
      · have eD' := s2 _ _ eD
        refine ⟨D, D2, xs.map V.ref, ys.map V.ref, rfl, rfl, eD', eD2, ?_, ?_⟩
        · rw [List.length_map, List.length_map, L1.len, L2.len]
          exact Nat.le_of_lt (small1000 (by omega))
        · refine ⟨.ref D, rfl, D, _, rfl, .inl ⟨SqL.of upd_same, fun t nt => ?_⟩⟩
          have sm : Same H (upd H2 D (.lst (xs.map V.ref ++ ys.map V.ref))) := same_put nD (s1.trans s2)
          have lk : ∀ {a m}, Lnk H2 a m → Lnk (upd (upd H2 D (.lst (xs.map V.ref ++ ys.map V.ref))) t (.tup (xs.map V.ref ++ ys.map V.ref))) a m := fun {a m} ⟨u, v, e⟩ => by
            refine ⟨u, v, same_upd nt _ _ ?_⟩
            rw [upd_ne (ne_of e eD' (fun z => nomatch z))]
            exact e
          refine q _ t (sm.trans (same_upd nt)) (sm.free nt) ⟨xs ++ ys, by rw [upd_same, List.map_append], ((L1.same s2).mono fun _ _ z => lk z).app (L2.mono fun _ _ z => lk z)⟩
end
end L2.Ac
namespace L2.Ac
open PySem PySem.Spec PyProof.Rows
open _root_.Ac
/-! ### idle_ring: nothing is left -/
abbrev nK (k : Nat) : Key := .inl (k : Int)
theorem nK_inj {a b : Nat} (h : nK a = nK b) : a = b := by
  have e := Sum.inl.inj h
  have e : (a : Int) = b := e
  omega
/-- a dict whose keys are the steps ks -/
def DK (H : Hp) (d : Addr) (ks : List Nat) : Prop := ∃ kvs : List (Key × V), H d = some (.dK kvs) ∧ kvs.map (·.1) = ks.map nK
theorem DK.same {H H' : Hp} {d : Addr} {ks : List Nat} (h : DK H d ks) (s : Same H H') : DK H' d ks := let ⟨kvs, e1, e2⟩ := h; ⟨kvs, s _ _ e1, e2⟩
theorem valV_mem {kvs : List (Key × V)} {ks : List Nat} (h : kvs.map (·.1) = ks.map nK) (k : Nat) : (valV kvs (nK k)).isSome = decide (k ∈ ks) := by
  rw [← valV_any]
  have : (kvs.any fun kv => decide (kv.1 = nK k)) = (kvs.map (·.1)).any fun x => decide (x = nK k) := by
    rw [List.any_map]
    rfl
  rw [this, h, List.any_map]
  by_cases c : k ∈ ks
  · rw [decide_eq_true c, List.any_eq_true]
    exact ⟨k, c, by simp⟩
  · rw [decide_eq_false c, List.any_eq_false]
    intro x hx z
    have : nK x = nK k := by simpa using z
    exact c (nK_inj this ▸ hx)
theorem DK.put {H : Hp} {d : Addr} {ks : List Nat} {k : Nat} {v : V} {kvs : List (Key × V)} (e : kvs.map (·.1) = ks.map nK) (hk : ¬ k ∈ ks) : DK (upd H d (.dK (putK kvs (nK k) v))) d (ks ++ [k]) := by
  refine ⟨_, upd_same, ?_⟩
  have hn : valV kvs (nK k) = none := by
    have := valV_mem e k
    rw [decide_eq_false hk] at this
    cases q : valV kvs (nK k) with
    | none => rfl
    | some _ =>
      rw [q] at this
      cases this
  rw [putK_new _ hn, List.map_append, List.map_append, e]
  rfl
section
variable {P : Program} {w : World} {K : PySem.W.Frag} {mg : Str → Option Value} {base : Heap}
abbrev sIdleRing : Stmt := topS 17
abbrev nIdleRing : List Str := ["steps", "links", "left", "last", "number", "one", "other", "rounds", "word", "index", "at", "turn", "step"]
theorem sc_idle_ring : FnScope nIdleRing ["steps", "links"] (defScope sIdleRing) := ⟨rfl, rfl, rfl, by decide +kernel, rfl, by decide +kernel, by decide +kernel⟩
def spIdleRing : Sp := fun vs H Q _ => ∃ (p : Addr) (n : Nat) (ls : List L3), vs = [nV n, .ref p] ∧ LnkT H p ls ∧ n ≤ 100 ∧ (∀ l, l ∈ ls → l.1 < n ∧ l.2.1 < n) ∧ (∃ pl : Nat → Nat, ∀ l, l ∈ ls → l.2.2 = 0 → pl l.1 < pl l.2.1) ∧ ∀ H', Same H H' → Q .non H'
theorem ok_idle_ring {f : Addr} {fd : FuncData} (F : Fun K "idle_ring" "idle_ring" sIdleRing f fd) (B : Bi mg) : FnOk P w K mg base CX0 1 f fd ["steps", "links"] spIdleRing := by
  refine F.ok sc_idle_ring (fun vs H Q E h => ?_) (fun cdv A outer s H vs Q E hr h => ?_)
  · obtain ⟨p, n, ls, rfl, _⟩ := h
    rfl
  · obtain ⟨p, n, ls, rfl, ⟨as, hp, L⟩, hn, hok, ⟨pl, hup⟩, q⟩ := h
    have nd := sc_idle_ring.nd
    have hu := hu_of hr
    refine ⟨_, pss_cons (ps_setDc (i := 2) (own := [("step", 12)]) (g := gName 12) (tt := tYes) (by rfl) nd rfl rfl (swd_true rfl rfl rfl (by decide +kernel)) (pi_range1 (by rfl) B.range (pa_cons (pv 0) pa_nil)) (blkOk_by (N := nIdleRing) (sc := defScope sIdleRing) (by decide +kernel))
        (fun _ _ _ _ _ => pg_name (i := 12) nd rfl (Or.inl rfl)) (fun _ _ _ _ _ => pts_nil) (fun _ _ _ _ _ => pv 12) (fun _ _ _ _ _ => pe_bl))
      (pss_cons (ps_while PassesOwn.never (pt_val pe_bl)
        (pss_cons (ps_set (i := 3) nd rfl (.inl rfl) pe_dnewK)
        (pss_cons (ps_for PassesOwn.never rfl (pi_enumT (by rfl) B.enumerate (pa_cons (pv 1) pa_nil))
            (pg_tup (by rfl) (pgs_cons (pg_name (i := 4) nd rfl (Or.inl rfl)) (pgs_cons (pg_tup (by rfl) (pgs_cons (pg_name (i := 5) nd rfl (Or.inl rfl)) (pgs_cons (pg_name (i := 6) nd rfl (Or.inl rfl)) (pgs_cons (pg_name (i := 7) nd rfl (Or.inl rfl)) (pgs_cons (pg_name (i := 8) nd rfl (Or.inl rfl)) (pgs_cons (pg_name (i := 9) nd rfl (Or.inl rfl)) pgs_nil)))))) pgs_nil)))
            (pss_one (ps_if (PW.pt (pw_and (pt_cmpR op_eq (pv 7) pe_int (nomark _)) (pw_and (pt_cmp (pc_din hu (pv 5) (pv 2))) (pw_and (pt_cmp (pc_din hu (pv 6) (pv 2))) (pw_and1 (pt_cmp (pc_dnotin hu (pv 5) (pv 3))))))))
              (pss_one (ps_dput hu (pv 3) (pv 5) (pv 4) rfl)) pss_nil)))
        (pss_cons (ps_if (pt_cmpR op_eq (pe_callB call_lenD (by rfl) B.len PySem.boot_len (pa_cons (pv 3) pa_nil)) (pe_callB call_lenD (by rfl) B.len PySem.boot_len (pa_cons (pv 2) pa_nil)) (nomark _)) (pss_one ps_break) pss_nil)
        (pss_one (ps_set (i := 2) nd rfl (.inl rfl) (pv 3)))))))
      (pss_cons (ps_if (pt_cmpR op_eq (pe_callB call_lenD (by rfl) B.len PySem.boot_len (pa_cons (pv 2) pa_nil)) pe_int (nomark _)) (pss_one (ps_ret pe_non)) pss_nil) pss_never)), ?_⟩
    have keysLen : ∀ {kvs : List (Key × V)} {ks : List Nat}, kvs.map (·.1) = ks.map nK → kvs.length = ks.length := fun {kvs ks} e => by
      have := congrArg List.length e
      rw [List.length_map, List.length_map] at this
      exact this
    -- left = {step: True for step in range(steps)}
    refine ⟨nV n, rfl, n, rfl, by omega, by omega, fun D nD => dc_range (lo := 0) (n := ((n : Int)).toNat) (fun i H' => Same H H' ∧ DK H' D (List.range i)) ⟨same_upd nD, [], upd_same, rfl⟩ ?_ ?_⟩
    · rintro i H' hi ⟨sm, kvs, eD, ek⟩
      have ei : (0 : Int) + (i : Nat) = (i : Nat) := Int.zero_add _
      rw [ei]
      refine ⟨rfl, _, rfl, kvs, nK i, rfl, eD, ?_, same_put nD sm, ?_⟩
      · rw [keysLen ek, List.length_range]
        exact small1000 (by omega)
      · rw [List.range_succ]
        exact DK.put ek (by simp)
    · rintro H0 ⟨sm0, dk0⟩
      have en : ((n : Int)).toNat = n := by omega
      rw [en] at dk0
      -- while True
      refine ⟨fun m σ H' => ∃ (d : Addr) (ks : List Nat) (y3 y4 y5 y6 y7 y8 y9 : Option V), σ = [some (nV n), some (.ref p), some (.ref d), y3, y4, y5, y6, y7, y8, y9, none, none, none] ∧ m = ks.length ∧ ks.length ≤ 100 ∧ Same H H' ∧ DK H' d ks,
        ⟨n, D, List.range n, none, none, none, none, none, none, none, rfl, by rw [List.length_range], by rw [List.length_range]; exact hn, sm0, dk0⟩, ?_⟩
      rintro m σ H' ⟨d, ks, y3, y4, y5, y6, y7, y8, y9, rfl, rfl, hks, sm, dk⟩
      refine ⟨true, rfl, fun σ2 H2 => ∃ (e : Addr) (js : List Nat) (y3 y4 y5 y6 y7 y8 y9 : Option V), σ2 = [some (nV n), some (.ref p), some (.ref e), y3, y4, y5, y6, y7, y8, y9, none, none, none] ∧ js.length < ks.length ∧ Same H H2 ∧ DK H2 e js, ?_, ?_⟩
      · rintro σ2 H2 ⟨e, js, z3, z4, z5, z6, z7, z8, z9, rfl, hlt, sm2, dk2⟩
        exact ⟨js.length, hlt, e, js, z3, z4, z5, z6, z7, z8, z9, rfl, rfl, by omega, sm2, dk2⟩
      -- last = {}
      intro e ne
      have hp' : ∀ {H2 : Hp}, Same H' H2 → H2 p = some (.tup (as.map V.ref)) := fun s2 => s2 _ _ (sm _ _ hp)
      refine ⟨_, rfl, p, _, rfl, SqT.of (hp' (same_upd ne)), for_walk as.length (fun i σ H2 => ∃ (js : List Nat) (y4 y5 y6 y7 y8 y9 : Option V), σ = [some (nV n), some (.ref p), some (.ref d), some (.ref e), y4, y5, y6, y7, y8, y9, none, none, none] ∧ Same H' H2 ∧ DK H2 e js ∧ js.Nodup ∧ (∀ x, x ∈ js → x ∈ ks) ∧
          ∀ x, x ∈ js → ∃ l, l ∈ ls ∧ l.1 = x ∧ l.2.1 ∈ ks ∧ l.2.2 = 0)
        ⟨[], y4, y5, y6, y7, y8, y9, rfl, same_upd ne, ⟨[], upd_same, rfl⟩, List.nodup_nil, (fun x hx => by simp at hx), (fun x hx => by simp at hx)⟩ ?_ ?_ ?_ ?_⟩
      · rintro i σ H2 hi ⟨js, z4, z5, z6, z7, z8, z9, rfl, sm2, _⟩
        exact ⟨_, .ref as[i], SqT.of (hp' sm2), by rw [List.getElem?_map, List.getElem?_eq_getElem hi]; rfl⟩
      · rintro σ H2 ⟨js, z4, z5, z6, z7, z8, z9, rfl, sm2, _⟩
        exact ⟨_, SqT.of (hp' sm2), by rw [List.length_map]; exact Nat.le_refl _⟩
      · rintro i x0 σ H2 H3 hi ⟨js, z4, z5, z6, z7, z8, z9, rfl, sm2, ⟨kvs, eE, ek⟩, hnd, hsub, hall⟩ ⟨T, y, rfl, nT, rfl, fy⟩
        have hi' : as[i]? = some as[i] := List.getElem?_eq_getElem hi
        obtain ⟨l, hl, wd, ix, ht⟩ := L.at_ i _ hi'
        have ey : y = .ref as[i] := by
          have := fy _ (SqT.of (hp' sm2))
          rw [List.getElem?_map, hi'] at this
          exact (Option.some.inj this).symm
        subst ey
        have hlm := List.mem_of_getElem? hl
        have smT : Same H2 (upd H2 T (.tup [nV i, .ref as[i]])) := same_upd nT
        have sm3 := sm2.trans smT
        refine ⟨T, _, rfl, SqT.of upd_same, rfl, nV i, [.ref as[i]], rfl, .ref as[i], [], rfl, ?_⟩
        refine ⟨as[i], _, rfl, SqT.of (sm3 _ _ (sm _ _ ht)), rfl, nV l.1, _, rfl, nV l.2.1, _, rfl, nV l.2.2, _, rfl, wd, _, rfl, ix, _, rfl, rfl, rfl, ?_⟩
        obtain ⟨kvd, eD, ekd⟩ := dk.same sm3
        have eE3 := smT _ _ eE
        -- what the turn ends with where nothing is put
        have stay : ∃ (js : List Nat) (y4 y5 y6 y7 y8 y9 : Option V), [some (nV n), some (V.ref p), some (.ref d), some (.ref e), some (nV i), some (nV l.1), some (nV l.2.1), some (nV l.2.2), some wd, some ix, none, none, none] = [some (nV n), some (.ref p), some (.ref d), some (.ref e), y4, y5, y6, y7, y8, y9, none, none, none] ∧
            Same H' (upd H2 T (.tup [nV i, .ref as[i]])) ∧ DK (upd H2 T (.tup [nV i, .ref as[i]])) e js ∧ js.Nodup ∧ (∀ x, x ∈ js → x ∈ ks) ∧ ∀ x, x ∈ js → ∃ l, l ∈ ls ∧ l.1 = x ∧ l.2.1 ∈ ks ∧ l.2.2 = 0 :=
          ⟨js, _, _, _, _, _, _, rfl, sm3, ⟨kvs, eE3, ek⟩, hnd, hsub, hall⟩
        refine ⟨_, rfl, rfl, _, rfl, ite2 (fun e0 => ?_) (fun _ => iteF stay)⟩
        have r0 : l.2.2 = 0 := by
          have z := V.int.inj (of_decide_eq_true e0)
          omega
        refine ⟨_, rfl, _, rfl, d, _, rfl, DGet.k (k := nK l.1) eD, _, rfl, ?_⟩
        rw [valV_mem ekd]
        refine ite2 (fun e1 => ?_) (fun _ => iteF stay)
        refine ⟨_, rfl, _, rfl, d, _, rfl, DGet.k (k := nK l.2.1) eD, _, rfl, ?_⟩
        rw [valV_mem ekd]
        refine ite2 (fun e2 => ?_) (fun _ => iteF stay)
        refine ⟨_, rfl, _, rfl, e, _, rfl, DGet.k (k := nK l.1) eE3, _, rfl, ?_⟩
        rw [valV_mem ek]
        refine ite2 (fun e3 => ?_) (fun _ => stay)
        have k1 : l.1 ∈ ks := of_decide_eq_true e1
        have k2 : l.2.1 ∈ ks := of_decide_eq_true e2
        have k3 : ¬ l.1 ∈ js := fun z => by
          rw [decide_eq_true z] at e3
          exact Bool.false_ne_true e3
        have jl := sub_len hnd hsub
        refine ⟨_, rfl, _, rfl, _, rfl, e, _, rfl, DPut.k (k := nK l.1) eE3 ?_, js ++ [l.1], _, _, _, _, _, _, rfl, ?_, DK.put ek k3, ?_, fun x hx => ?_, fun x hx => ?_⟩
        · rw [keysLen ek]
          exact small1000 (by omega)
        · exact fun b o z => by
            rw [upd_ne (ne_of_none z ne)]
            exact sm3 _ _ z
        · rw [List.nodup_append]
          refine ⟨hnd, by simp, fun a ha b hb z => ?_⟩
          rw [List.mem_singleton.mp hb] at z
          exact k3 (z ▸ ha)
        · rcases List.mem_append.mp hx with hx | hx
          · exact hsub x hx
          · rw [List.mem_singleton.mp hx]
            exact k1
        · rcases List.mem_append.mp hx with hx | hx
          · exact hall x hx
          · rw [List.mem_singleton.mp hx]
            exact ⟨l, hlm, rfl, k2, r0⟩
      · rintro σ H2 ⟨js, z4, z5, z6, z7, z8, z9, rfl, sm2, ⟨kvs, eE, ek⟩, hnd, hsub, hall⟩
        obtain ⟨kvd, eD, ekd⟩ := dk.same sm2
        refine ⟨_, rfl, e, kvs, rfl, eE, _, rfl, d, kvd, rfl, eD, rfl, _, rfl, ?_⟩
        rw [keysLen ek, keysLen ekd]
        refine ite2 (fun z => ?_) (fun z => ?_)
        · -- break: nothing is left
          have z : ((js.length : Nat) : Int) = (ks.length : Nat) := V.int.inj (of_decide_eq_true z)
          have e0 : ks = [] := none_left hup hall hnd hsub (by omega)
          refine ⟨_, rfl, d, kvd, rfl, eD, rfl, _, rfl, ?_⟩
          rw [keysLen ekd, e0]
          exact q _ (sm.trans sm2)
        · have z : ¬ js.length = ks.length := fun y => z (decide_eq_true (by rw [y]))
          have := sub_len hnd hsub
          exact ⟨_, rfl, e, js, _, _, _, _, _, _, _, rfl, by omega, sm.trans sm2, kvs, eE, ek⟩
end
end L2.Ac
namespace L2.Ac
open PySem PySem.Spec PyProof.Rows
open _root_.Ac
/-- tuple(x) of a list or a tuple, by its reading -/
abbrev rTupS (K : PySem.W.Frag) : List V → Hp → VK → Prop := fun xs H Q => ∃ p ys, xs = [.ref p] ∧ ((SqL K H p ys ∧ ∀ l, H l = none → Q (.ref l) (upd H l (.tup ys))) ∨ (SqT K H p ys ∧ Q (.ref p) H))
theorem tupS {X : Cx} : CallR X (.type "tuple") (rTupS X.K) := call_tuple_of
/-! ### a program's object -/
def Pr2 (H : Hp) (c : Addr) (p : Nat × Nat) : Prop := H c = some (.tup [nV p.1, nV p.2])
theorem Pr2.same {H H' : Hp} {c : Addr} {p : Nat × Nat} (h : Pr2 H c p) (s : Same H H') : Pr2 H' c p := s _ _ h
/-- a tuple of pairs -/
def PrT (H : Hp) (t : Addr) (ps : List (Nat × Nat)) : Prop := ∃ cs : List Addr, H t = some (.tup (cs.map V.ref)) ∧ Each (Pr2 H) cs ps
theorem PrT.same {H H' : Hp} {t : Addr} {ps : List (Nat × Nat)} (h : PrT H t ps) (s : Same H H') : PrT H' t ps := let ⟨cs, e1, e2⟩ := h; ⟨cs, s _ _ e1, e2.mono fun _ _ z => z.same s⟩
/-- the list of the readers of each step -/
def RdsL (H : Hp) (p : Addr) (n : Nat) (ns : List L3) : Prop := ∃ ts : List Addr, H p = some (.lst (ts.map V.ref)) ∧ ts.length = n ∧ ∀ (s : Nat) (t : Addr), ts[s]? = some t → ∃ ps, PrT H t ps ∧ ps.Perm (rds ns s)
theorem RdsL.same {H H' : Hp} {p : Addr} {n : Nat} {ns : List L3} (h : RdsL H p n ns) (s : Same H H') : RdsL H' p n ns :=
  let ⟨ts, e1, e2, e3⟩ := h; ⟨ts, s _ _ e1, e2, fun i t e => let ⟨ps, q1, q2⟩ := e3 i t e; ⟨ps, q1.same s, q2⟩⟩
/-- a program of n steps, the needs ns and the befores bs stands at x -/
def ProgAt (C : Addr) (H : Hp) (x : Addr) (n : Nat) (ns bs : List L3) : Prop := ∃ (dx : Addr) (fs : List (Str × V)) (pl pr pm : Addr),
  H x = some (.ins C dx fs) ∧ fs.lookup ("steps" : Str) = some (nV n) ∧ fs.lookup ("kept_links" : Str) = some (.ref pl) ∧ fs.lookup ("kept_readers" : Str) = some (.ref pr) ∧ fs.lookup ("kept_makers" : Str) = some (.ref pm) ∧
  LnkT H pl (ns ++ bs) ∧ RdsL H pr n ns ∧ H pm = some (.tup ((mks n ns).map nV))
theorem ProgAt.same {C : Addr} {H H' : Hp} {x : Addr} {n : Nat} {ns bs : List L3} (h : ProgAt C H x n ns bs) (s : Same H H') : ProgAt C H' x n ns bs :=
  let ⟨dx, fs, pl, pr, pm, e1, e2, e3, e4, e5, e6, e7, e8⟩ := h; ⟨dx, fs, pl, pr, pm, s _ _ e1, e2, e3, e4, e5, e6.same s, e7.same s, s _ _ e8⟩
/-- what the class Program is -/
structure PC (K : PySem.W.Frag) (mg : Str → Option Value) (C : Addr) : Prop where
  cl : Cls K C
  n1 : NoAttr K C "steps"
  n2 : NoAttr K C "needs"
  n3 : NoAttr K C "befores"
  n4 : NoAttr K C "kept_links"
  n5 : NoAttr K C "kept_readers"
  n6 : NoAttr K C "kept_makers"
  g : mg "Program" = some (.ref C)
theorem Each.cons_inv {α : Type} {R : Addr → α → Prop} {a : Addr} {as : List Addr} {ls : List α} (h : Each R (a :: as) ls) : ∃ l ms, ls = l :: ms ∧ R a l ∧ Each R as ms := by
  cases ls with
  | nil => exact absurd h.len (by simp)
  | cons l ms =>
    obtain ⟨l', e1, e2⟩ := h.at_ 0 a rfl
    have e : l = l' := Option.some.inj e1
    subst e
    exact ⟨l, ms, rfl, e2, by have := h.len; simpa using this, fun i b e => h.at_ (i + 1) b e⟩
theorem Each.cons {α : Type} {R : Addr → α → Prop} {a : Addr} {as : List Addr} {l : α} {ls : List α} (h1 : R a l) (h : Each R as ls) : Each R (a :: as) (l :: ls) :=
  ⟨by rw [List.length_cons, List.length_cons, h.len], fun i b e => by
    cases i with
    | zero =>
      have z : a = b := Option.some.inj e
      exact ⟨l, rfl, z ▸ h1⟩
    | succ i => exact h.at_ i b e⟩
theorem Each.perm {α : Type} {R : Addr → α → Prop} {as cs : List Addr} (p : cs.Perm as) : ∀ {ls : List α}, Each R as ls → ∃ ms, Each R cs ms ∧ ms.Perm ls := by
  induction p with
  | nil => exact fun {ls} h => ⟨ls, h, .refl _⟩
  | @cons x xs ys p ih =>
    intro ls h
    obtain ⟨l, ms, rfl, h1, h2⟩ := h.cons_inv
    obtain ⟨ks, k1, k2⟩ := ih h2
    exact ⟨l :: ks, k1.cons h1, k2.cons l⟩
  | swap x y r =>
    intro ls h
    obtain ⟨l, ms, rfl, h1, h2⟩ := h.cons_inv
    obtain ⟨l', ms', rfl, h3, h4⟩ := h2.cons_inv
    exact ⟨l' :: l :: ms', (h4.cons h1).cons h3, .swap _ _ _⟩
  | trans p q ih1 ih2 =>
    intro ls h
    obtain ⟨ks, k1, k2⟩ := ih2 h
    obtain ⟨js, j1, j2⟩ := ih1 k1
    exact ⟨js, j1, j2.trans k2⟩
theorem perm_refs : ∀ {ys xs : List V}, ys.Perm xs → ∀ {as : List Addr}, xs = as.map V.ref → ∃ cs : List Addr, ys = cs.map V.ref ∧ cs.Perm as := by
  intro ys xs p
  induction p with
  | nil => exact fun {as} e => ⟨as, e, .refl _⟩
  | @cons x xs ys p ih =>
    intro as e
    cases as with
    | nil => simp at e
    | cons a as =>
      injection e with e1 e2
      obtain ⟨cs, k1, k2⟩ := ih e2
      exact ⟨a :: cs, by rw [List.map_cons, e1, k1], k2.cons a⟩
  | swap x y r =>
    intro as e
    match as, e with
    | [], e => simp at e
    | [_], e => simp at e
    | a :: b :: r', e =>
      injection e with e1 e2
      injection e2 with e2 e3
      exact ⟨b :: a :: r', by rw [List.map_cons, List.map_cons, e1, e2, e3], .swap _ _ _⟩
  | trans p q ih1 ih2 =>
    intro as e
    obtain ⟨cs, k1, k2⟩ := ih2 e
    obtain ⟨ds, j1, j2⟩ := ih1 k1
    exact ⟨ds, j1, j2.trans k2⟩
theorem rds_snoc {ns : List L3} {i : Nat} {l : L3} (h : ns[i]? = some l) (s : Nat) : rds (ns.take (i + 1)) s = rds (ns.take i) s ++ if l.1 = s then [(l.2.1, l.2.2)] else [] := by
  rw [take_snoc h]
  unfold rds
  rw [List.filter_append, List.map_append]
  congr 1
  by_cases c : l.1 = s
  · rw [if_pos c]
    simp [c]
  · rw [if_neg c]
    simp [c]
theorem lenF {f : Str} {v : V} {fs : List (Str × V)} {k : Nat} (h : fs.length ≤ k) : (putF f v fs).length ≤ k + 1 := Nat.le_trans (length_putF f v fs) (Nat.succ_le_succ h)
/-- the four fields that are stored first -/
def fs4 (n : Nat) (p r l : Addr) : List (Str × V) := putF "kept_links" (.ref l) (putF "befores" (.ref r) (putF "needs" (.ref p) (putF "steps" (nV n) [])))
theorem fs4_len (n : Nat) (p r l : Addr) : (fs4 n p r l).length ≤ 4 := lenF (lenF (lenF (lenF (Nat.zero_le _))))
theorem fs6_looks (n : Nat) (p r l a b : Addr) : (putF "kept_makers" (.ref b) (putF "kept_readers" (.ref a) (fs4 n p r l))).lookup ("steps" : Str) = some (nV n) ∧ (putF "kept_makers" (.ref b) (putF "kept_readers" (.ref a) (fs4 n p r l))).lookup ("kept_links" : Str) = some (.ref l) ∧
    (putF "kept_makers" (.ref b) (putF "kept_readers" (.ref a) (fs4 n p r l))).lookup ("kept_readers" : Str) = some (.ref a) ∧ (putF "kept_makers" (.ref b) (putF "kept_readers" (.ref a) (fs4 n p r l))).lookup ("kept_makers" : Str) = some (.ref b) := by
  unfold fs4
  refine ⟨?_, ?_, ?_, ?_⟩
  · rw [lookup_putF, if_neg (by decide +kernel), lookup_putF, if_neg (by decide +kernel), lookup_putF, if_neg (by decide +kernel), lookup_putF, if_neg (by decide +kernel), lookup_putF, if_neg (by decide +kernel), lookup_putF, if_pos rfl]
  · rw [lookup_putF, if_neg (by decide +kernel), lookup_putF, if_neg (by decide +kernel), lookup_putF, if_pos rfl]
  · rw [lookup_putF, if_neg (by decide +kernel), lookup_putF, if_pos rfl]
  · rw [lookup_putF, if_pos rfl]
section
variable {P : Program} {w : World} {K : PySem.W.Frag} {mg : Str → Option Value} {base : Heap}
abbrev sKeep : Stmt := inClass (topS 18) 1
abbrev nKeep : List Str := ["self", "steps", "needs", "befores", "links", "ring", "rows", "one", "other", "rounds", "step", "row"]
theorem sc_keep : FnScope nKeep ["self", "steps", "needs", "befores"] (defScope sKeep) := ⟨rfl, rfl, rfl, by decide +kernel, rfl, by decide +kernel, by decide +kernel⟩
def spKeep (C : Addr) : Sp := fun vs H Q _ => ∃ (x dx p r : Addr) (n : Nat) (ns bs : List L3), vs = [.ref x, nV n, .ref p, .ref r] ∧ H x = some (.ins C dx []) ∧ TupT H p ns ∧ TupT H r bs ∧ Good n ns bs ∧
  ∀ H', ProgAt C H' x n ns bs → (∀ b o, H b = some o → b ≠ x → H' b = some o) → Q .non H'
theorem ok_keep {f f1 f2 C : Addr} {fd fd1 fd2 : FuncData} (F : Fun K "keep" "Program.keep" sKeep f fd) (B : Bi mg) (T : PC K mg C) (C1 : Cal P w K mg base 1 "links_of" f1 fd1 ["needs", "befores"] spLinksOf) (C2 : Cal P w K mg base 1 "idle_ring" f2 fd2 ["steps", "links"] spIdleRing) :
    FnOk P w K mg base CX0 2 f fd ["self", "steps", "needs", "befores"] (spKeep C) := by
  refine F.ok sc_keep (fun vs H Q E h => ?_) (fun cdv A outer s H vs Q E hr h => ?_)
  · obtain ⟨x, dx, p, r, n, ns, bs, rfl, _⟩ := h
    rfl
  · obtain ⟨x, dx, p, r, n, ns, bs, rfl, hx, hp, hr', G, q⟩ := h
    have nd := sc_keep.nd
    refine ⟨_, pss_cons (ps_set (i := 4) nd rfl (.inl rfl) (pcal C1 hr (pa_cons (pv 2) (pa_cons (pv 3) pa_nil))))
      (pss_cons (ps_set (i := 5) nd rfl (.inl rfl) (pcal C2 hr (pa_cons (pv 1) (pa_cons (pv 4) pa_nil))))
      (pss_cons (ps_if (pt_cmpR op_notN (pv 5) pe_non (nomark _)) pss_never pss_nil)
      (pss_cons (ps_fld (pv 0) (pv 1) rfl) (pss_cons (ps_fld (pv 0) (pv 2) rfl) (pss_cons (ps_fld (pv 0) (pv 3) rfl) (pss_cons (ps_fld (pv 0) (pv 4) rfl)
      (pss_cons (ps_set (i := 6) nd rfl (.inr rfl) (pe_lc (own := [("step", 10)]) (g := gName 10) (tt := tYes) (by rfl) nd (pi_range1 (by rfl) B.range (pa_cons (pv 1) pa_nil)) (blkOk_by (N := nKeep) (sc := defScope sKeep) (by decide +kernel))
          (fun _ _ _ _ _ => pg_name (i := 10) nd rfl (Or.inl rfl)) (fun _ _ _ _ _ => pts_nil) (fun _ _ _ _ _ => pe_lst pa_nil)))
      (pss_cons (ps_for PassesOwn.never rfl (pi_tup (pv 2)) (pg_tup (by rfl) (pgs_cons (pg_name (i := 7) nd rfl (Or.inl rfl)) (pgs_cons (pg_name (i := 8) nd rfl (Or.inl rfl)) (pgs_cons (pg_name (i := 9) nd rfl (Or.inl rfl)) pgs_nil))))
          (pss_one (ps_expr (pe_bm PySem.F.plainAttrs_list PySem.F.slot_list_append PySem.F.type_list_append mt_append (pe_ix ix_list (pv 6) (pv 7) (fun _ _ => rfl)) (pa_cons (pe_tup (pa_cons (pv 8) (pa_cons (pv 9) pa_nil))) pa_nil)))))
      (pss_cons (ps_fld (pv 0) (pe_lc (own := [("row", 11)]) (g := gName 11) (tt := tYes) (te := tCB (rTupS K) (tCons (tCB (rSortedP K) (tCons (tVar 11) tNil)) tNil)) (by rfl) nd (pi_list (pv 6)) (blkOk_by (N := nKeep) (sc := defScope sKeep) (by decide +kernel))
          (fun _ _ _ _ _ => pg_name (i := 11) nd rfl (Or.inl rfl)) (fun _ _ _ _ _ => pts_nil)
          (fun _ _ _ _ _ => pe_callTy tupS (by rfl) B.tuple boot_tuple (pa_cons (pe_callB cr_sortedP (by rfl) B.sorted boot_sorted (pa_cons (pv 11) pa_nil)) pa_nil))) rfl)
      (pss_one (ps_fld (pv 0) (pe_callTy call_tuple_of (by rfl) B.tuple boot_tuple (pa_cons (pe_lc (own := [("step", 10)]) (g := gName 10) (tt := tTest (tOp rGt0 (tCB (rLenS K) (tCons (tOp (rIxL K) (tVar 6) (tVar 10)) tNil)) (tC (.int 0)))) (by rfl) nd (pi_range1 (by rfl) B.range (pa_cons (pv 1) pa_nil)) (blkOk_by (N := nKeep) (sc := defScope sKeep) (by decide +kernel))
          (fun _ _ _ _ _ => pg_name (i := 10) nd rfl (Or.inl rfl)) (fun _ _ _ _ _ => pts_one (pt_cmpR op_gt (pe_callB lenS (by rfl) B.len PySem.boot_len (pa_cons (pe_ix ix_list (pv 6) (pv 10) (fun _ _ => rfl)) pa_nil)) pe_int (nomark _)))
          (fun _ _ _ _ _ => pv 10)) pa_nil)) rfl))))))))))), ?_⟩
    -- links, ring
    refine ⟨.ref p, rfl, .ref r, rfl, p, r, ns, bs, rfl, hp, hr', by have := G.ln; omega, by have := G.lb; omega, fun H1 pl s1 npl L => ?_⟩
    refine ⟨nV n, rfl, .ref pl, rfl, pl, n, ns ++ bs, rfl, L, by have := G.n12; omega, G.all, G.up, fun H2 s2 => ?_⟩
    refine ⟨.non, rfl, rfl, _, rfl, ?_⟩
    have s12 := s1.trans s2
    have L2 := L.same s2
    have hx2 := s12 _ _ hx
    refine ⟨_, rfl, _, rfl, x, C, dx, [], rfl, hx2, T.cl, T.n1, (by decide), ?_⟩
    refine ⟨_, rfl, _, rfl, x, C, dx, _, rfl, upd_same, T.cl, T.n2, Nat.lt_of_le_of_lt (lenF (k := 0) (Nat.zero_le _)) (by decide), ?_⟩
    refine ⟨_, rfl, _, rfl, x, C, dx, _, rfl, upd_same, T.cl, T.n3, Nat.lt_of_le_of_lt (lenF (k := 1) (lenF (Nat.zero_le _))) (by decide), ?_⟩
    refine ⟨_, rfl, _, rfl, x, C, dx, _, rfl, upd_same, T.cl, T.n4, Nat.lt_of_le_of_lt (lenF (k := 2) (lenF (lenF (Nat.zero_le _)))) (by decide), ?_⟩
    generalize eH : upd (upd (upd (upd H2 x _) x _) x _) x _ = H3
    have hx3 : H3 x = some (.ins C dx (fs4 n p r pl)) := by
      rw [← eH]
      exact upd_same
    have k3 : ∀ b o, H b = some o → b ≠ x → H3 b = some o := fun b o e ne => by
      rw [← eH, upd_ne ne, upd_ne ne, upd_ne ne, upd_ne ne]
      exact s12 _ _ e
    have k23 : ∀ b o, H2 b = some o → b ≠ x → H3 b = some o := fun b o e ne => by
      rw [← eH, upd_ne ne, upd_ne ne, upd_ne ne, upd_ne ne]
      exact e
    clear eH
    -- rows
    refine ⟨_, rfl, n, rfl, by omega, by have := G.n12; omega, fun D nD => lc_range (lo := 0) (n := ((n : Int)).toNat) (fun i H' => Same H3 H' ∧ ∃ rs : List Addr, H' D = some (.lst (rs.map V.ref)) ∧ rs.length = i ∧ rs.Nodup ∧ ∀ (s : Nat) (a : Addr), rs[s]? = some a → a ≠ D ∧ H3 a = none ∧ H' a = some (.lst []))
      ⟨same_upd nD, [], upd_same, rfl, List.nodup_nil, fun s a e => by simp at e⟩ ?_ ?_⟩
    · rintro i H' hi ⟨sm, rs, eD, el, hnd, hrs⟩
      refine ⟨rfl, Nat.zero_le _, fun a na => ⟨rs.map V.ref, same_upd na _ _ eD, ?_, ?_, rs ++ [a], ?_, ?_, ?_, ?_⟩⟩
      · rw [List.length_map, el]
        have := G.n12
        exact small1000 (by omega)
      · exact same_put nD (sm.trans (same_upd na))
      · rw [upd_same, List.map_append]
        rfl
      · rw [List.length_append, el]
        rfl
      · rw [List.nodup_append]
        refine ⟨hnd, by simp, fun b hb c hc z => ?_⟩
        rw [List.mem_singleton.mp hc] at z
        obtain ⟨j, hj⟩ := List.getElem?_of_mem hb
        obtain ⟨_, _, q3⟩ := hrs j b hj
        rw [z, na] at q3
        cases q3
      · intro s b hb
        by_cases c : s < rs.length
        · rw [List.getElem?_append_left c] at hb
          obtain ⟨q1, q2, q3⟩ := hrs s b hb
          exact ⟨q1, q2, by rw [upd_ne q1]; exact same_upd na _ _ q3⟩
        · rw [List.getElem?_append_right (by omega)] at hb
          have hb : b = a := by
            cases z : s - rs.length with
            | zero =>
              rw [z] at hb
              exact (Option.some.inj hb).symm
            | succ k =>
              rw [z] at hb
              simp at hb
          subst hb
          have ne : b ≠ D := (ne_of_none eD na).symm
          exact ⟨ne, sm.free na, by rw [upd_ne ne, upd_same]⟩
    · rintro H4 ⟨s34, rs, eD, el, hnd, hrs⟩
      have el : rs.length = n := by omega
      -- for one, other, rounds in needs
      obtain ⟨as, hpa, TA⟩ := hp
      have px : p ≠ x := ne_of hpa hx (fun z => nomatch z)
      have hp3 : H3 p = some (.tup (as.map V.ref)) := k3 _ _ hpa px
      have tri3 : ∀ {a l}, Tri H a l → Tri H3 a l := fun {a l} e => k3 _ _ e (ne_of e hx (fun z => nomatch z))
      refine ⟨_, rfl, p, rfl, ⟨_, SqT.of (s34 _ _ hp3)⟩, for_tup (K := K) (a := p) (xs := as.map V.ref) (fun i σ H' => ∃ (y7 y8 y9 : Option V), σ = [some (.ref x), some (nV n), some (.ref p), some (.ref r), some (.ref pl), some .non, some (.ref D), y7, y8, y9, none, none] ∧
          Same H3 H' ∧ H' D = some (.lst (rs.map V.ref)) ∧ ∀ (s : Nat) (a : Addr), rs[s]? = some a → ∃ cs : List Addr, H' a = some (.lst (cs.map V.ref)) ∧ Each (Pr2 H') cs (rds (ns.take i) s))
        ⟨none, none, none, rfl, s34, eD, fun s a e => ⟨[], (hrs s a e).2.2, by rw [List.take_zero]; exact Each.nil⟩⟩ (fun i σ H' _ z => ?_) ?_ ?_⟩
      · obtain ⟨_, _, _, _, s4, _⟩ := z
        exact SqT.of (s4 _ _ hp3)
      · rintro i y σ H' hy ⟨y7, y8, y9, rfl, s4, eD', hr4⟩
        obtain ⟨a, ha, rfl⟩ := ref_at hy
        obtain ⟨l, hl, ht⟩ := TA.at_ i a ha
        obtain ⟨g1, g2, g3⟩ := G.okn l (List.mem_of_getElem? hl)
        have hrow : rs[l.1]? = some rs[l.1] := List.getElem?_eq_getElem (by omega)
        obtain ⟨cs, ec, ea⟩ := hr4 _ _ hrow
        obtain ⟨nDr, nr3, _⟩ := hrs _ _ hrow
        refine ⟨a, triV l, rfl, SqT.of (s4 _ _ (tri3 ht)), rfl, nV l.1, _, rfl, nV l.2.1, _, rfl, nV l.2.2, _, rfl, rfl, ?_⟩
        refine ⟨_, rfl, nV l.1, rfl, D, _, l.1, .ref rs[l.1], rfl, rfl, SqL.of eD', atI_nat (by rw [List.getElem?_map, hrow]; rfl), .inl ⟨rfl, _, SqL.of ec⟩, nV l.2.1, rfl, nV l.2.2, rfl, (by show 2 ≤ sizeLine; decide), fun T nT => ?_⟩
        have sT : Same H' (upd H' T (.tup [nV l.2.1, nV l.2.2])) := same_upd nT
        have ec' := sT _ _ ec
        refine ⟨rs[l.1], _, _, rfl, rfl, ec', ?_, _, _, _, rfl, same_put nr3 (s4.trans sT), ?_, fun s b hb => ?_⟩
        · rw [List.length_map, ea.len]
          have : (rds (ns.take i) l.1).length ≤ 40 := by
            unfold rds
            rw [List.length_map]
            refine Nat.le_trans (List.length_filter_le _ _) ?_
            rw [List.length_take]
            have := G.ln
            omega
          exact small1000 (by omega)
        · rw [upd_ne (Ne.symm nDr)]
          exact sT _ _ eD'
        · have up : ∀ c q, Pr2 H' c q → Pr2 (upd (upd H' T (.tup [nV l.2.1, nV l.2.2])) rs[l.1] (.lst (cs.map V.ref ++ [.ref T]))) c q := fun c q e => by
            unfold Pr2
            rw [upd_ne (ne_of e ec (fun z => nomatch z))]
            exact sT _ _ e
          rw [rds_snoc hl]
          by_cases c : s = l.1
          · subst c
            rw [hrow] at hb
            have hb := Option.some.inj hb
            subst hb
            refine ⟨cs ++ [T], by rw [upd_same, List.map_append]; rfl, ?_⟩
            rw [if_pos rfl]
            refine (ea.mono up).snoc ?_
            unfold Pr2
            rw [upd_ne (ne_of_none ec nT).symm, upd_same]
          · obtain ⟨ds, ed, ee⟩ := hr4 s b hb
            have nb : b ≠ rs[l.1] := fun z => c (nd_ix hnd hb (z ▸ hrow))
            refine ⟨ds, by rw [upd_ne nb]; exact sT _ _ ed, ?_⟩
            rw [if_neg (fun z => c z.symm), List.append_nil]
            exact ee.mono up
      · rintro σ H5 ⟨y7, y8, y9, rfl, s35, eD5, hr5⟩
        rw [List.length_map, TA.len, List.take_of_length_le (Nat.le_refl _)] at hr5
        -- self.kept_readers
        have rowsL : ∀ {H' : Hp}, Same H5 H' → SqL K H' D (rs.map V.ref) := fun s => SqL.of (s _ _ eD5)
        refine ⟨_, rfl, D, rfl, ⟨_, SqL.of eD5⟩, fun L5 nL => lc_list (K := K) (a := D) (xs := rs.map V.ref) (fun i H' => Same H5 H' ∧ ∃ ts : List Addr, H' L5 = some (.lst (ts.map V.ref)) ∧ ts.length = i ∧ ∀ (s : Nat) (t : Addr), ts[s]? = some t → ∃ ps, PrT H' t ps ∧ ps.Perm (rds ns s))
          ⟨same_upd nL, [], upd_same, rfl, fun s t e => by simp at e⟩ (fun i H' _ z => rowsL z.1) ?_ ?_⟩
        · rintro i y H' hy ⟨sm, ts, eL, et, hts⟩
          obtain ⟨a, ha, rfl⟩ := ref_at hy
          obtain ⟨cs, ec, ee⟩ := hr5 i a ha
          have ec' := sm _ _ ec
          refine ⟨rfl, _, rfl, a, cs.map V.ref, rfl, SqL.of ec', fun v hv => ?_, fun ys u hperm nu => ?_⟩
          · obtain ⟨c, hc, rfl⟩ := List.mem_map.mp hv
            obtain ⟨j, hj⟩ := List.getElem?_of_mem hc
            obtain ⟨m, _, em⟩ := ee.at_ j c hj
            exact ⟨c, _, _, rfl, sm _ _ em⟩
          · obtain ⟨ds, rfl, hds⟩ := perm_refs hperm rfl
            obtain ⟨ms, em, hms⟩ := Each.perm hds (ee.mono fun _ _ z => z.same sm)
            refine ⟨u, _, rfl, .inl ⟨SqL.of upd_same, fun t nt => ?_⟩⟩
            have su := same_upd (o := .lst (ds.map V.ref)) nu
            have st := su.trans (same_upd (o := .tup (ds.map V.ref)) nt)
            refine ⟨ts.map V.ref, st _ _ eL, ?_, same_put nL (sm.trans st), ts ++ [t], ?_, ?_, fun s b hb => ?_⟩
            · rw [List.length_map, et]
              have := (List.getElem?_eq_some_iff.mp ha).1
              have := G.n12
              exact small1000 (by omega)
            · rw [upd_same, List.map_append]
              rfl
            · rw [List.length_append, et]
              rfl
            · have up : ∀ {c ps}, PrT (upd (upd H' u (.lst (ds.map V.ref))) t (.tup (ds.map V.ref))) c ps → PrT (upd (upd (upd H' u (.lst (ds.map V.ref))) t (.tup (ds.map V.ref))) L5 (.lst (ts.map V.ref ++ [.ref t]))) c ps := fun {c ps} ⟨xs, e1, e2⟩ => by
                have eLt := st _ _ eL
                refine ⟨xs, ?_, e2.mono fun c q z => ?_⟩
                · rw [upd_ne (ne_of e1 eLt (fun z => nomatch z))]
                  exact e1
                · unfold Pr2
                  rw [upd_ne (ne_of z eLt (fun z => nomatch z))]
                  exact z
              by_cases c : s < ts.length
              · rw [List.getElem?_append_left c] at hb
                obtain ⟨ps, k1, k2⟩ := hts s b hb
                exact ⟨ps, up (k1.same st), k2⟩
              · rw [List.getElem?_append_right (by omega)] at hb
                have hs : s = ts.length ∧ b = t := by
                  cases z : s - ts.length with
                  | zero =>
                    rw [z] at hb
                    exact ⟨by omega, (Option.some.inj hb).symm⟩
                  | succ k =>
                    rw [z] at hb
                    simp at hb
                obtain ⟨rfl, rfl⟩ := hs
                rw [et]
                exact ⟨ms, up ⟨ds, upd_same, em.mono fun _ _ z => z.same st⟩, hms⟩
        · rintro H6 ⟨s56, ts, eL, et, hts⟩
          have hx6 : H6 x = some (.ins C dx (fs4 n p r pl)) := s56 _ _ (s35 _ _ hx3)
          refine ⟨_, rfl, x, C, dx, _, rfl, hx6, T.cl, T.n5, Nat.lt_of_le_of_lt (fs4_len n p r pl) (by decide), ?_⟩
          have hxL : x ≠ L5 := ne_of hx6 eL (fun z => nomatch z)
          have hxD : x ≠ D := ne_of hx6 (s56 _ _ eD5) (fun z => nomatch z)
          -- self.kept_makers
          generalize eH : upd H6 x _ = H7
          have hx7 : H7 x = some (.ins C dx (putF "kept_readers" (.ref L5) (fs4 n p r pl))) := by
            rw [← eH]
            exact upd_same
          have k7 : ∀ b o, H6 b = some o → b ≠ x → H7 b = some o := fun b o e ne => by
            rw [← eH, upd_ne ne]
            exact e
          clear eH
          have eD7 : H7 D = some (.lst (rs.map V.ref)) := k7 _ _ (s56 _ _ eD5) hxD.symm
          have hr7 : ∀ (s : Nat) (a : Addr), rs[s]? = some a → ∃ cs : List Addr, H7 a = some (.lst (cs.map V.ref)) ∧ cs.length = (rds ns s).length := fun s a e => by
            obtain ⟨cs, e1, e2⟩ := hr5 s a e
            exact ⟨cs, k7 _ _ (s56 _ _ e1) (ne_of (s56 _ _ e1) hx6 (fun z => nomatch z)), e2.len⟩
          refine ⟨nV n, rfl, n, rfl, by omega, by have := G.n12; omega, fun M nM => lc_range (lo := 0) (n := ((n : Int)).toNat) (fun i H' => Same H7 H' ∧ H' M = some (.lst ((((List.range i).filter fun s => decide (0 < (rds ns s).length))).map nV))) ⟨same_upd nM, upd_same⟩ ?_ ?_⟩
          · rintro i H' hi ⟨sm, eM⟩
            have hrow : rs[i]? = some rs[i] := List.getElem?_eq_getElem (by omega)
            obtain ⟨cs, ec, el'⟩ := hr7 _ _ hrow
            have ei : (0 : Int) + (i : Nat) = (i : Nat) := Int.zero_add _
            rw [ei]
            refine ⟨rfl, .ref D, rfl, _, rfl, D, _, _, .ref rs[i], rfl, rfl, SqL.of (sm _ _ eD7), atI_nat (by rw [List.getElem?_map, hrow]; rfl), rs[i], _, rfl, .inl (SqL.of (sm _ _ ec)), _, _, rfl, rfl, _, rfl, ?_⟩
            rw [List.length_map, el', List.range_succ, List.filter_append]
            refine ite2 (fun z => ?_) (fun z => ?_)
            · have z : (0 : Int) < ((rds ns i).length : Nat) := of_decide_eq_true z
              have z : 0 < (rds ns i).length := by omega
              refine ⟨_, rfl, _, eM, ?_, same_put nM sm, ?_⟩
              · rw [List.length_map]
                refine small1000 (Nat.le_trans (List.length_filter_le _ _) ?_)
                rw [List.length_range]
                have := G.n12
                omega
              · rw [upd_same, List.map_append]
                congr 2
                rw [List.filter_cons, if_pos (decide_eq_true z)]
                rfl
            · have z : ¬ 0 < (rds ns i).length := fun y => z (decide_eq_true (by omega))
              refine ⟨sm, ?_⟩
              rw [List.filter_cons, if_neg (fun y => z (of_decide_eq_true y)), List.filter_nil, List.append_nil]
              exact eM
          · rintro H8 ⟨s78, eM⟩
            have en : ((n : Int)).toNat = n := by omega
            rw [en] at eM
            refine ⟨M, _, rfl, .inl ⟨SqL.of eM, fun pm npm => ?_⟩⟩
            have s79 := s78.trans (same_upd (o := .tup ((mks n ns).map nV)) npm)
            have hx9 := s79 _ _ hx7
            refine ⟨_, rfl, x, C, dx, _, rfl, hx9, T.cl, T.n6, Nat.lt_of_le_of_lt (lenF (fs4_len n p r pl)) (by decide), ?_⟩
            have nx : pm ≠ x := (ne_of_none (s78 _ _ hx7) npm).symm
            obtain ⟨f1, f2, f3, f4⟩ := fs6_looks n p r pl L5 pm
            have k9 : ∀ b o, H7 b = some o → b ≠ x → (upd (upd H8 pm (.tup ((mks n ns).map nV))) x (.ins C dx (putF "kept_makers" (.ref pm) (putF "kept_readers" (.ref L5) (fs4 n p r pl))))) b = some o := fun b o e ne => by
              rw [upd_ne ne]
              exact s79 _ _ e
            have kAll : ∀ b o, H b = some o → b ≠ x → (upd (upd H8 pm (.tup ((mks n ns).map nV))) x (.ins C dx (putF "kept_makers" (.ref pm) (putF "kept_readers" (.ref L5) (fs4 n p r pl))))) b = some o := fun b o e ne => k9 b o (k7 b o (s56 _ _ (s35 _ _ (k3 b o e ne))) ne) ne
            refine q _ ⟨dx, _, pl, L5, pm, upd_same, f1, f2, f3, f4, ?_, ?_, ?_⟩ kAll
            · obtain ⟨ls, e1, e2⟩ := L2
              have up : ∀ b o, H2 b = some o → b ≠ x → (upd (upd H8 pm (.tup ((mks n ns).map nV))) x (.ins C dx (putF "kept_makers" (.ref pm) (putF "kept_readers" (.ref L5) (fs4 n p r pl))))) b = some o := fun b o e ne => k9 b o (k7 b o (s56 _ _ (s35 _ _ (k23 b o e ne))) ne) ne
              exact ⟨ls, up _ _ e1 (ne_of e1 hx2 (fun z => nomatch z)), e2.mono fun a m ⟨u, v, z⟩ => ⟨u, v, up _ _ z (ne_of z hx2 (fun z => nomatch z))⟩⟩
            · have up : ∀ b o, H6 b = some o → b ≠ x → (upd (upd H8 pm (.tup ((mks n ns).map nV))) x (.ins C dx (putF "kept_makers" (.ref pm) (putF "kept_readers" (.ref L5) (fs4 n p r pl))))) b = some o := fun b o e ne => k9 b o (k7 b o e ne) ne
              refine ⟨ts, up _ _ eL hxL.symm, by rw [et, List.length_map, el], fun s t e => ?_⟩
              obtain ⟨ps, ⟨cs, e1, e2⟩, hp⟩ := hts s t e
              exact ⟨ps, ⟨cs, up _ _ e1 (ne_of e1 hx6 (fun z => nomatch z)), e2.mono fun a m z => up _ _ z (ne_of z hx6 (fun z => nomatch z))⟩, hp⟩
            · rw [upd_ne nx, upd_same]
              rfl
/-! ### Program(..) -/
abbrev sInit : Stmt := inClass (topS 18) 0
theorem sc_init : FnScope ["self", "steps", "needs", "befores"] ["self", "steps", "needs", "befores"] (defScope sInit) := ⟨rfl, rfl, rfl, by decide +kernel, rfl, by decide +kernel, by decide +kernel⟩
theorem ok_init {f f1 f2 f3 C : Addr} {fd fd1 fd2 fd3 : FuncData} (F : Fun K "__init__" "Program.__init__" sInit f fd) (T : PC K mg C) {tk : Tok} (mS : mg "MOST_STEPS" = some (.int 12 tk)) (C1 : Cal P w K mg base 2 "is_within" f1 fd1 ["thing", "least", "most"] spIsWithin)
    (C2 : Cal P w K mg base 4 "are_triples" f2 fd2 ["thing", "steps"] spAreTriples) (mK : Meth K C "keep" f3) (G3 : FnOk P w K mg base CX0 2 f3 fd3 ["self", "steps", "needs", "befores"] (spKeep C)) (b3 : Binds K fd3 ["self", "steps", "needs", "befores"] []) :
    FnOk P w K mg base CX0 5 f fd ["self", "steps", "needs", "befores"] (spKeep C) := by
  refine F.ok sc_init (fun vs H Q E h => ?_) (fun cdv A outer s H vs Q E hr h => ?_)
  · obtain ⟨x, dx, p, r, n, ns, bs, rfl, _⟩ := h
    rfl
  · obtain ⟨x, dx, p, r, n, ns, bs, rfl, hx, hp, hr', G, q⟩ := h
    have hr2 : Room 2 _ := hr.mono (by decide)
    refine ⟨_, pss_cons (ps_if (pt_not (pt_val (pcal C1 hr2 (pa_cons (pv 1) (pa_cons pe_int (pa_cons (pe_glob (v := .int 12) (by rfl) mS ⟨_, rfl⟩) pa_nil)))))) pss_never pss_nil)
      (pss_cons (ps_if (pt_not (pt_val (pcal C2 hr (pa_cons (pv 2) (pa_cons (pv 1) pa_nil))))) pss_never pss_nil)
      (pss_cons (ps_if (pt_not (pt_val (pcal C2 hr (pa_cons (pv 3) (pa_cons (pv 1) pa_nil))))) pss_never pss_nil)
      (pss_one (ps_expr (pe_meth (pv 0) T.cl mK G3 hr2 b3 .nil pass0 (pa_cons (pv 1) (pa_cons (pv 2) (pa_cons (pv 3) pa_nil)))))))), ?_⟩
    refine ⟨nV n, rfl, _, _, _, rfl, _, rfl, iteNS (by have := G.n1; have := G.n12; omega) ?_⟩
    refine ⟨.ref p, rfl, nV n, rfl, p, n, ns, rfl, hp, G.ln, G.ndn, G.okn, fun H1 s1 => ⟨_, rfl, iteF ?_⟩⟩
    refine ⟨.ref r, rfl, nV n, rfl, r, n, bs, rfl, hr'.same s1, G.lb, G.ndb, G.okb, fun H2 s2 => ⟨_, rfl, iteF ?_⟩⟩
    have s12 := s1.trans s2
    refine ⟨_, rfl, x, dx, [], rfl, s12 _ _ hx, rfl, nV n, rfl, .ref p, rfl, .ref r, rfl, x, dx, p, r, n, ns, bs, rfl, s12 _ _ hx, hp.same s12, hr'.same s12, G, fun H3 PA k => ?_⟩
    exact q H3 PA fun b o e ne => k b o (s12 _ _ e) ne
/-! ### is_step, check_step, check_maker -/
abbrev sIsStep : Stmt := topS 19
theorem sc_is_step : FnScope ["program", "thing"] ["program", "thing"] (defScope sIsStep) := ⟨rfl, rfl, rfl, by decide +kernel, rfl, by decide +kernel, by decide +kernel⟩
/-- of a step of the program at x -/
def spStep (C : Addr) (v : V) : Sp := fun vs H Q _ => ∃ (x : Addr) (n s : Nat) (ns bs : List L3), vs = [.ref x, nV s] ∧ ProgAt C H x n ns bs ∧ s < n ∧ Q v H
theorem ok_is_step {f f1 C : Addr} {fd fd1 : FuncData} (F : Fun K "is_step" "is_step" sIsStep f fd) (T : PC K mg C) (C1 : Cal P w K mg base 2 "is_within" f1 fd1 ["thing", "least", "most"] spIsWithin) : FnOk P w K mg base CX0 3 f fd ["program", "thing"] (spStep C (.bl true)) := by
  refine F.ok sc_is_step (fun vs H Q E h => ?_) (fun cdv A outer s H vs Q E hr h => ?_)
  · obtain ⟨x, n, s, ns, bs, rfl, _⟩ := h
    rfl
  · obtain ⟨x, n, st, ns, bs, rfl, ⟨dx, fs, pl, pr, pm, e1, e2, e3⟩, hs, q⟩ := h
    refine ⟨_, pss_one (ps_ret (pcal C1 hr (pa_cons (pv 1) (pa_cons pe_int (pa_cons (pe_op op_sub (pe_fld (pv 0) rfl) pe_int) pa_nil))))), ?_⟩
    refine ⟨nV st, rfl, _, rfl, x, C, dx, fs, _, rfl, e1, T.cl, T.n1, e2, _, _, rfl, rfl, _, _, _, rfl, ?_⟩
    rw [decide_eq_true (show (0 : Int) ≤ (st : Int) ∧ (st : Int) ≤ (n : Int) - 1 by omega)]
    exact q
abbrev sCheckStep : Stmt := topS 20
theorem sc_check_step : FnScope ["program", "thing"] ["program", "thing"] (defScope sCheckStep) := ⟨rfl, rfl, rfl, by decide +kernel, rfl, by decide +kernel, by decide +kernel⟩
theorem ok_check_step {f f1 C : Addr} {fd fd1 : FuncData} (F : Fun K "check_step" "check_step" sCheckStep f fd) (C1 : Cal P w K mg base 3 "is_step" f1 fd1 ["program", "thing"] (spStep C (.bl true))) : FnOk P w K mg base CX0 4 f fd ["program", "thing"] (spStep C .non) := by
  refine F.ok sc_check_step (fun vs H Q E h => ?_) (fun cdv A outer s H vs Q E hr h => ?_)
  · obtain ⟨x, n, s, ns, bs, rfl, _⟩ := h
    rfl
  · obtain ⟨x, n, st, ns, bs, rfl, hP, hs, q⟩ := h
    refine ⟨_, pss_one (ps_if (pt_not (pt_val (pcal C1 hr (pa_cons (pv 0) (pa_cons (pv 1) pa_nil))))) pss_never pss_nil), ?_⟩
    exact ⟨.ref x, rfl, nV st, rfl, x, n, st, ns, bs, rfl, hP, hs, _, rfl, iteF q⟩
abbrev sCheckMaker : Stmt := topS 21
theorem sc_check_maker : FnScope ["program", "thing"] ["program", "thing"] (defScope sCheckMaker) := ⟨rfl, rfl, rfl, by decide +kernel, rfl, by decide +kernel, by decide +kernel⟩
def spCheckMaker (C : Addr) : Sp := fun vs H Q _ => ∃ (x : Addr) (n s : Nat) (ns bs : List L3), vs = [.ref x, nV s] ∧ ProgAt C H x n ns bs ∧ s ∈ mks n ns ∧ Q .non H
theorem ok_check_maker {f f1 C : Addr} {fd fd1 : FuncData} (F : Fun K "check_maker" "check_maker" sCheckMaker f fd) (T : PC K mg C) (C1 : Cal P w K mg base 3 "is_step" f1 fd1 ["program", "thing"] (spStep C (.bl true))) : FnOk P w K mg base CX0 4 f fd ["program", "thing"] (spCheckMaker C) := by
  refine F.ok sc_check_maker (fun vs H Q E h => ?_) (fun cdv A outer s H vs Q E hr h => ?_)
  · obtain ⟨x, n, s, ns, bs, rfl, _⟩ := h
    rfl
  · obtain ⟨x, n, st, ns, bs, rfl, hP, hs, q⟩ := h
    obtain ⟨dx, fs, pl, pr, pm, e1, e2, e3, e4, e5, e6, e7, e8⟩ := id hP
    refine ⟨_, pss_one (ps_if (PW.pt (pw_or (pt_not (pt_val (pcal C1 hr (pa_cons (pv 0) (pa_cons (pv 1) pa_nil))))) (pw_or1 (pt_cmpR op_notIn_seq (pv 1) (pe_fld (pv 0) rfl) (by rfl))))) pss_never pss_nil), ?_⟩
    refine ⟨.ref x, rfl, nV st, rfl, x, n, st, ns, bs, rfl, hP, (mem_mks.mp hs).1, _, rfl, iteF ?_⟩
    refine ⟨nV st, rfl, _, rfl, x, C, dx, fs, _, rfl, e1, T.cl, T.n6, e5, pm, _, rfl, .inr (SqT.of e8), rfl, ?_, _, rfl, ?_⟩
    · rw [List.all_map, List.all_eq_true]
      exact fun _ _ => rfl
    · have e : inV (nV st) ((mks n ns).map nV) = true := by
        unfold inV
        rw [List.any_map, List.any_eq_true]
        exact ⟨st, hs, by show ((st : Int) == (st : Int)) = true; exact beq_self_eq_true _⟩
      rw [e]
      exact q
end
end L2.Ac
namespace L2.Ac
open PySem PySem.Spec PyProof.Rows
open _root_.Ac
/-! ### the table's rows -/
/-- None or a number -/
def oV : Option Nat → V
  | none => .non
  | some d => nV d
theorem oV_inj {a b : Option Nat} (h : oV a = oV b) : a = b := by
  cases a with
  | none =>
    cases b with
    | none => rfl
    | some d => cases h
  | some c =>
    cases b with
    | none => cases h
    | some d =>
      have e := V.int.inj h
      have : c = d := by omega
      rw [this]
def rowV (g : Nat → Option Nat) (n : Nat) : List V := (List.range n).map fun j => oV (g j)
theorem rowV_len (g : Nat → Option Nat) (n : Nat) : (rowV g n).length = n := by
  unfold rowV
  rw [List.length_map, List.length_range]
theorem rowV_at (g : Nat → Option Nat) {n j : Nat} (h : j < n) : (rowV g n)[j]? = some (oV (g j)) := by
  unfold rowV
  rw [List.getElem?_map, List.getElem?_range h]
  rfl
theorem rowV_congr {g h : Nat → Option Nat} {n : Nat} (e : ∀ j, j < n → g j = h j) : rowV g n = rowV h n := by
  unfold rowV
  exact List.map_congr_left fun j hj => by rw [e j (List.mem_range.mp hj)]
theorem rowV_eq {g h : Nat → Option Nat} {n : Nat} (e : rowV g n = rowV h n) : ∀ j, j < n → g j = h j := fun j hj => by
  have := rowV_at g hj
  rw [e, rowV_at h hj] at this
  exact oV_inj (Option.some.inj this).symm
theorem rowV_set (g : Nat → Option Nat) (n i : Nat) (o : Option Nat) : (rowV g n).set i (oV o) = rowV (fun j => if j = i then o else g j) n := by
  apply List.ext_getElem?
  intro j
  by_cases c : j < n
  · rw [rowV_at _ c]
    by_cases e : i = j
    · subst e
      rw [List.getElem?_set_self (by rw [rowV_len]; exact c), if_pos rfl]
    · rw [List.getElem?_set_ne e, rowV_at _ c, if_neg (fun z => e z.symm)]
  · rw [List.getElem?_eq_none (by rw [List.length_set, rowV_len]; omega), List.getElem?_eq_none (by rw [rowV_len]; omega)]
theorem ixN_nat {n j : Nat} (h : j < n) : ixN n (j : Int) = some j := by
  unfold ixN
  rw [if_pos (by omega), if_pos (by omega)]
  congr 1
/-- what lowered makes of a row -/
def lowf (g h : Nat → Option Nat) (x : Nat) (j : Nat) : Option Nat :=
  match h j with
  | some y => low (g j) (x + y)
  | none => g j
theorem lowf_self (g : Nat → Option Nat) (j : Nat) : lowf g g 0 j = g j := by
  unfold lowf
  cases e : g j with
  | none => rfl
  | some y =>
    show low (some y) (0 + y) = some y
    unfold low
    simp
section
variable {P : Program} {w : World} {K : PySem.W.Frag} {mg : Str → Option Value} {base : Heap}
abbrev sLowered : Stmt := topS 24
theorem sc_lowered : FnScope ["row", "middle", "ahead", "other", "rounds"] ["row", "middle", "ahead"] (defScope sLowered) := ⟨rfl, rfl, rfl, by decide +kernel, rfl, by decide +kernel, by decide +kernel⟩
def spLowered : Sp := fun vs H Q _ => ∃ (p r : Addr) (x n : Nat) (g h : Nat → Option Nat), vs = [.ref p, .ref r, nV x] ∧ H p = some (.lst (rowV g n)) ∧ H r = some (.lst (rowV h n)) ∧ n ≤ 100 ∧ (p = r → x = 0) ∧
  ∀ H', H' p = some (.lst (rowV (lowf g h x) n)) → (∀ b o, H b = some o → b ≠ p → H' b = some o) → Q .non H'
theorem ok_lowered {f : Addr} {fd : FuncData} (F : Fun K "lowered" "lowered" sLowered f fd) (B : Bi mg) : FnOk P w K mg base CX0 1 f fd ["row", "middle", "ahead"] spLowered := by
  refine F.ok sc_lowered (fun vs H Q E h => ?_) (fun cdv A outer s H vs Q E hr h => ?_)
  · obtain ⟨p, r, x, n, g, k, rfl, _⟩ := h
    rfl
  · obtain ⟨p, r, x, n, g, k, rfl, hp, hr', hn, hpr, q⟩ := h
    have nd := sc_lowered.nd
    refine ⟨_, pss_one (ps_for PassesOwn.never rfl (pi_enum (by rfl) B.enumerate (pa_cons (pv 1) pa_nil)) (pg_tup (n := 2) (by rfl) (pgs_cons (pg_name (i := 3) nd rfl (Or.inl rfl)) (pgs_cons (pg_name (i := 4) nd rfl (Or.inl rfl)) pgs_nil)))
      (pss_one (ps_if (PW.pt (pw_and (pt_cmpR op_notN (pv 4) pe_non (nomark _)) (pw_and1 (PW.pt (pw_or (pt_cmpR op_isN (pe_ix ix_list (pv 0) (pv 3) (fun _ _ => rfl)) pe_non (nomark _))
          (pw_or1 (pt_cmpR op_gt (pe_ix ix_list (pv 0) (pv 3) (fun _ _ => rfl)) (pe_op op_add (pv 2) (pv 4)) (nomark _))))))))
        (pss_one (ps_asg (pe_op op_add (pv 2) (pv 4)) (pg_sub (pv 0) (pv 3) set_list))) pss_nil))), ?_⟩
    refine ⟨_, rfl, r, _, rfl, SqL.of hr', for_walk n (fun i σ H' => ∃ y3 y4, σ = [some (.ref p), some (.ref r), some (nV x), y3, y4] ∧ H' p = some (.lst (rowV (fun j => if j < i then lowf g k x j else g j) n)) ∧ H' r = some (.lst (rowV k n)) ∧ ∀ b o, H b = some o → b ≠ p → H' b = some o)
      ⟨none, none, rfl, by rw [hp]; exact congrArg (fun z => some (HO.lst z)) (rowV_congr fun j _ => by rw [if_neg (Nat.not_lt_zero _)]), hr', fun b o e _ => e⟩ ?_ ?_ ?_ ?_⟩
    · rintro i σ H' hi ⟨_, _, _, _, e, _⟩
      exact ⟨_, _, SqL.of e, rowV_at k hi⟩
    · rintro σ H' ⟨_, _, _, _, e, _⟩
      exact ⟨_, SqL.of e, by rw [rowV_len]; exact Nat.le_refl _⟩
    · rintro i x0 σ H' H2 hi ⟨y3, y4, rfl, ep, er, kp⟩ ⟨T, y, rfl, nT, rfl, fy⟩
      have ey : y = oV (k i) := by
        have := fy _ (SqL.of er)
        rw [rowV_at k hi] at this
        exact (Option.some.inj this).symm
      subst ey
      have sT : Same H' (upd H' T (.tup [nV i, oV (k i)])) := same_upd nT
      have ep' := sT _ _ ep
      have er' := sT _ _ er
      have gi : (if i < i then lowf g k x i else g i) = g i := if_neg (Nat.lt_irrefl _)
      have row := rowV_at (fun j => if j < i then lowf g k x j else g j) hi
      simp only [Nat.lt_irrefl, if_false] at row
      refine ⟨T, _, rfl, SqT.of upd_same, rfl, nV i, _, rfl, oV (k i), _, rfl, rfl, ?_⟩
      -- what a turn that puts nothing ends with
      have stay : lowf g k x i = g i → ∃ y3 y4, [some (V.ref p), some (V.ref r), some (nV x), some (nV i), some (oV (k i))] = [some (.ref p), some (.ref r), some (nV x), y3, y4] ∧ (upd H' T (.tup [nV i, oV (k i)])) p = some (.lst (rowV (fun j => if j < i + 1 then lowf g k x j else g j) n)) ∧
          (upd H' T (.tup [nV i, oV (k i)])) r = some (.lst (rowV k n)) ∧ ∀ b o, H b = some o → b ≠ p → (upd H' T (.tup [nV i, oV (k i)])) b = some o := fun e => by
        refine ⟨_, _, rfl, ?_, er', fun b o z nb => sT _ _ (kp b o z nb)⟩
        rw [ep']
        refine congrArg (fun z => some (HO.lst z)) (rowV_congr fun j _ => ?_)
        by_cases c : j < i
        · rw [if_pos c, if_pos (by omega)]
        · by_cases c2 : j = i
          · subst c2
            rw [if_neg c, if_pos (by omega), e]
          · rw [if_neg c, if_neg (by omega)]
      cases ek : k i with
      | none =>
        refine ⟨_, rfl, rfl, _, rfl, ?_⟩
        have := stay (by unfold lowf; rw [ek])
        rw [ek] at this
        exact this
      | some y =>
        rw [ek] at stay ep' er' sT
        have same : p = r → g i = some y ∧ x = 0 := fun z => by
          refine ⟨?_, hpr z⟩
          rw [z, er] at ep
          have e := rowV_eq (HO.lst.inj (Option.some.inj ep)) i hi
          rw [if_neg (Nat.lt_irrefl _), ek] at e
          exact e.symm
        -- what a turn that puts ends with
        have put : p ≠ r → low (g i) (x + y) = some (x + y) → ∃ y3 y4, [some (V.ref p), some (V.ref r), some (nV x), some (nV i), some (oV (some y))] = [some (.ref p), some (.ref r), some (nV x), y3, y4] ∧
            (upd (upd H' T (.tup [nV i, oV (some y)])) p (.lst ((rowV (fun j => if j < i then lowf g k x j else g j) n).set i (oV (some (x + y)))))) p = some (.lst (rowV (fun j => if j < i + 1 then lowf g k x j else g j) n)) ∧
            (upd (upd H' T (.tup [nV i, oV (some y)])) p (.lst ((rowV (fun j => if j < i then lowf g k x j else g j) n).set i (oV (some (x + y)))))) r = some (.lst (rowV k n)) ∧
            ∀ b o, H b = some o → b ≠ p → (upd (upd H' T (.tup [nV i, oV (some y)])) p (.lst ((rowV (fun j => if j < i then lowf g k x j else g j) n).set i (oV (some (x + y)))))) b = some o := fun ne el => by
          refine ⟨_, _, rfl, ?_, by rw [upd_ne ne.symm]; exact er', fun b o z nb => by rw [upd_ne nb]; exact sT _ _ (kp b o z nb)⟩
          rw [upd_same, rowV_set]
          refine congrArg (fun z => some (HO.lst z)) (rowV_congr fun j _ => ?_)
          by_cases c : j = i
          · subst c
            rw [if_pos rfl, if_pos (by omega)]
            unfold lowf
            rw [ek]
            exact el.symm
          · rw [if_neg c]
            by_cases c2 : j < i
            · rw [if_pos c2, if_pos (by omega)]
            · rw [if_neg c2, if_neg (by omega)]
        refine ⟨_, rfl, rfl, _, rfl, ?_⟩
        refine ⟨.ref p, rfl, nV i, rfl, p, _, _, oV (g i), rfl, rfl, SqL.of ep', atI_nat row, rfl, _, rfl, ?_⟩
        cases eg : g i with
        | none =>
          refine ⟨nV x, rfl, oV (some y), rfl, (x : Int), (y : Int), rfl, rfl, .ref p, rfl, nV i, rfl, p, _, _, i, rfl, rfl, ep', ixN_nat (by rw [rowV_len]; exact hi), ?_⟩
          exact put (fun z => by rw [(same z).1] at eg; cases eg) (by rw [eg]; rfl)
        | some z =>
          rw [eg] at row
          refine ⟨.ref p, rfl, nV i, rfl, p, _, _, oV (some z), rfl, rfl, SqL.of ep', atI_nat row, nV x, rfl, oV (some y), rfl, (x : Int), (y : Int), rfl, rfl, (z : Int), (x : Int) + (y : Int), rfl, rfl, _, rfl, ?_⟩
          by_cases c : x + y < z
          · rw [decide_eq_true (show (x : Int) + (y : Int) < (z : Int) by omega)]
            refine ⟨nV x, rfl, oV (some y), rfl, (x : Int), (y : Int), rfl, rfl, .ref p, rfl, nV i, rfl, p, _, _, i, rfl, rfl, ep', ixN_nat (by rw [rowV_len]; exact hi), ?_⟩
            refine put (fun w => ?_) (by rw [eg]; unfold low; simp [c])
            obtain ⟨s1, s2⟩ := same w
            rw [eg] at s1
            have := Option.some.inj s1
            omega
          · rw [decide_eq_false (show ¬ (x : Int) + (y : Int) < (z : Int) by omega)]
            refine stay ?_
            unfold lowf
            rw [ek, eg]
            unfold low
            simp [c]
    · rintro σ H' ⟨y3, y4, rfl, ep, er, kp⟩
      refine q H' ?_ kp
      rw [ep]
      exact congrArg (fun z => some (HO.lst z)) (rowV_congr fun j hj => by rw [if_pos hj])
end
end L2.Ac
namespace L2.Ac
open PySem PySem.Spec PyProof.Rows
open _root_.Ac
/-! ### the table while it is made -/
structure Far (H : Hp) (D : Addr) (rs : List Addr) (n : Nat) (F : Nat → Nat → Option Nat) : Prop where
  top : H D = some (.lst (rs.map V.ref))
  len : rs.length = n
  nd : rs.Nodup
  ne : ∀ a, a ∈ rs → a ≠ D
  row : ∀ (i : Nat) (a : Addr), rs[i]? = some a → H a = some (.lst (rowV (F i) n))
theorem Far.same {H H' : Hp} {D : Addr} {rs : List Addr} {n : Nat} {F : Nat → Nat → Option Nat} (h : Far H D rs n F) (s : Same H H') : Far H' D rs n F := ⟨s _ _ h.top, h.len, h.nd, h.ne, fun i a e => s _ _ (h.row i a e)⟩
theorem Far.congr {H : Hp} {D : Addr} {rs : List Addr} {n : Nat} {F G : Nat → Nat → Option Nat} (h : Far H D rs n F) (e : ∀ i j, i < n → j < n → F i j = G i j) : Far H D rs n G :=
  ⟨h.top, h.len, h.nd, h.ne, fun i a q => by
    have hi := (List.getElem?_eq_some_iff.mp q).1
    rw [h.len] at hi
    rw [h.row i a q]
    exact congrArg (fun z => some (HO.lst z)) (rowV_congr fun j hj => e i j hi hj)⟩
theorem Far.upd {H H' : Hp} {D : Addr} {rs : List Addr} {n : Nat} {F : Nat → Nat → Option Nat} (h : Far H D rs n F) {i : Nat} {a : Addr} {g : Nat → Option Nat} (ha : rs[i]? = some a) (e : H' a = some (.lst (rowV g n))) (k : ∀ b o, H b = some o → b ≠ a → H' b = some o) :
    Far H' D rs n (fun r => if r = i then g else F r) := by
  refine ⟨k _ _ h.top (h.ne a (List.mem_of_getElem? ha)).symm, h.len, h.nd, h.ne, fun j b hb => ?_⟩
  by_cases c : j = i
  · subst c
    rw [ha] at hb
    have := Option.some.inj hb
    subst this
    rw [if_pos rfl]
    exact e
  · rw [if_neg c]
    exact k _ _ (h.row j b hb) fun z => c (nd_ix h.nd hb (z ▸ ha))
theorem Far.at_ {H : Hp} {D : Addr} {rs : List Addr} {n : Nat} {F : Nat → Nat → Option Nat} (h : Far H D rs n F) {i : Nat} (hi : i < n) : ∃ a, rs[i]? = some a ∧ (rs.map V.ref)[i]? = some (.ref a) ∧ H a = some (.lst (rowV (F i) n)) := by
  have hi' : i < rs.length := by rw [h.len]; exact hi
  have e : rs[i]? = some rs[i] := List.getElem?_eq_getElem hi'
  exact ⟨_, e, by rw [List.getElem?_map, e]; rfl, h.row _ _ e⟩
/-- a finished table -/
def TabT (H : Hp) (t : Addr) (n : Nat) (F : Nat → Nat → Option Nat) : Prop := ∃ rs : List Addr, H t = some (.tup (rs.map V.ref)) ∧ rs.length = n ∧ ∀ (i : Nat) (a : Addr), rs[i]? = some a → H a = some (.tup (rowV (F i) n))
theorem TabT.same {H H' : Hp} {t : Addr} {n : Nat} {F : Nat → Nat → Option Nat} (h : TabT H t n F) (s : Same H H') : TabT H' t n F := let ⟨rs, e1, e2, e3⟩ := h; ⟨rs, s _ _ e1, e2, fun i a e => s _ _ (e3 i a e)⟩
theorem rowV_snoc (g : Nat → Option Nat) (n : Nat) : rowV g n ++ [oV (g n)] = rowV g (n + 1) := by
  unfold rowV
  rw [List.range_succ, List.map_append]
  rfl
theorem foldl_take {ls : List L3} {i : Nat} {l : L3} (h : ls[i]? = some l) (F : Nat → Nat → Option Nat) : (ls.take (i + 1)).foldl relax F = relax ((ls.take i).foldl relax F) l := by
  rw [take_snoc h, List.foldl_append]
  rfl
/-- the scope of a list comprehension that is a statement's value -/
def lcScope (st : Stmt) : Scope := match st with
  | .Assign _ (.ListComp _ _ sc _) _ => sc
  | _ => { kind := .function, names := [], isGenerator := false, isCoroutine := false }
section
variable {P : Program} {w : World} {K : PySem.W.Frag} {mg : Str → Option Value} {base : Heap}
abbrev sRounds : Stmt := topS 23
abbrev nRounds : List Str := ["program", "one", "other", "far", "rounds", "word", "index", "middle", "row"]
theorem sc_rounds : FnScope nRounds ["program"] (defScope sRounds) := ⟨rfl, rfl, rfl, by decide +kernel, rfl, by decide +kernel, by decide +kernel⟩
def spRounds (C : Addr) : Sp := fun vs H Q _ => ∃ (x : Addr) (n : Nat) (ns bs : List L3), vs = [.ref x] ∧ ProgAt C H x n ns bs ∧ Good n ns bs ∧ ∀ H' t, Same H H' → H t = none → TabT H' t n (lr (ns ++ bs)) → Q (.ref t) H'
abbrev teZero : TE := tIf (tTest (tOp rEq (tVar 1) (tVar 2))) (tC (.int 0)) (tC .non)
theorem ok_rounds {f f1 C : Addr} {fd fd1 : FuncData} (F : Fun K "rounds_table" "rounds_table" sRounds f fd) (B : Bi mg) (T : PC K mg C) (C1 : Cal P w K mg base 1 "lowered" f1 fd1 ["row", "middle", "ahead"] spLowered) : FnOk P w K mg base CX0 2 f fd ["program"] (spRounds C) := by
  refine F.ok sc_rounds (fun vs H Q E h => ?_) (fun cdv A outer s H vs Q E hr h => ?_)
  · obtain ⟨x, n, ns, bs, rfl, _⟩ := h
    rfl
  · obtain ⟨x, n, ns, bs, rfl, ⟨dx, fs, pl, pr, pm, e1, e2, e3, e4, e5, ⟨as, ePl, L⟩, e7, e8⟩, G, q⟩ := h
    have nd := sc_rounds.nd
    refine ⟨_, pss_cons (ps_setLc (i := 3) (own := [("one", 1)]) (g := gName 1) (tt := tYes) (te := tLc (iRng1 (tCons (tFld K (tVar 0) "steps") tNil)) (gName 2) tYes teZero [2]) (by rfl) nd rfl rfl (sw_true rfl rfl rfl (by decide +kernel))
        (pi_range1 (by rfl) B.range (pa_cons (pe_fld (pv 0) rfl) pa_nil)) (blkOk_by (N := nRounds) (sc := defScope sRounds) (by decide +kernel)) (fun _ _ _ _ _ => pg_name (i := 1) nd rfl (Or.inr rfl)) (fun _ _ _ _ _ => pts_nil)
        (fun _ _ _ _ _ => pe_lc (own := [("other", 2)]) (g := gName 2) (tt := tYes) (te := teZero) (by rfl) nd (pi_range1 (by rfl) B.range (pa_cons (pe_fld (pv 0) rfl) pa_nil))
          (blkOk_by (N := nRounds) (sc := relS (lcScope ((defBody sRounds).getD 0 (.Pass ⟨0, 0, 0, 0⟩))) (defScope sRounds)) (by decide +kernel)) (fun _ _ _ _ _ => pg_name (i := 2) nd rfl (Or.inl rfl)) (fun _ _ _ _ _ => pts_nil)
          (fun _ _ _ _ _ => pe_ifExp (pt_cmpR op_eq (pv 1) (pv 2) (nomark _)) pe_int pe_non)))
      (pss_cons (ps_for PassesOwn.never rfl (pi_tup (pe_fld (pv 0) rfl)) (pg_tup (n := 5) (by rfl) (pgs_cons (pg_name (i := 1) nd rfl (Or.inl rfl)) (pgs_cons (pg_name (i := 2) nd rfl (Or.inl rfl)) (pgs_cons (pg_name (i := 4) nd rfl (Or.inl rfl)) (pgs_cons (pg_name (i := 5) nd rfl (Or.inl rfl)) (pgs_cons (pg_name (i := 6) nd rfl (Or.inl rfl)) pgs_nil))))))
        (pss_one (ps_if (PW.pt (pw_or (pt_cmpR op_isN (pe_ix ix_list (pe_ix ix_list (pv 3) (pv 1) (fun _ _ => rfl)) (pv 2) (fun _ _ => rfl)) pe_non (nomark _))
            (pw_or1 (pt_cmpR op_gt (pe_ix ix_list (pe_ix ix_list (pv 3) (pv 1) (fun _ _ => rfl)) (pv 2) (fun _ _ => rfl)) (pv 4) (nomark _)))))
          (pss_one (ps_asg (pv 4) (pg_sub (pe_ix ix_list (pv 3) (pv 1) (fun _ _ => rfl)) (pv 2) set_list))) pss_nil)))
      (pss_cons (ps_for PassesOwn.never rfl (pi_range1 (by rfl) B.range (pa_cons (pe_fld (pv 0) rfl) pa_nil)) (pg_name (i := 7) nd rfl (Or.inl rfl))
        (pss_one (ps_for PassesOwn.never rfl (pi_range1 (by rfl) B.range (pa_cons (pe_fld (pv 0) rfl) pa_nil)) (pg_name (i := 1) nd rfl (Or.inl rfl))
          (pss_one (ps_if (pt_cmpR op_notN (pe_ix ix_list (pe_ix ix_list (pv 3) (pv 1) (fun _ _ => rfl)) (pv 7) (fun _ _ => rfl)) pe_non (nomark _))
            (pss_one (ps_expr (pcal C1 hr (pa_cons (pe_ix ix_list (pv 3) (pv 1) (fun _ _ => rfl)) (pa_cons (pe_ix ix_list (pv 3) (pv 7) (fun _ _ => rfl)) (pa_cons (pe_ix ix_list (pe_ix ix_list (pv 3) (pv 1) (fun _ _ => rfl)) (pv 7) (fun _ _ => rfl)) pa_nil)))))) pss_nil)))))
      (pss_one (ps_ret (pe_callTy call_tuple_of (by rfl) B.tuple boot_tuple (pa_cons (pe_lc (own := [("row", 8)]) (g := gName 8) (tt := tYes) (te := tCB (rTupS K) (tCons (tVar 8) tNil)) (by rfl) nd (pi_list (pv 3)) (blkOk_by (N := nRounds) (sc := defScope sRounds) (by decide +kernel))
        (fun _ _ _ _ _ => pg_name (i := 8) nd rfl (Or.inl rfl)) (fun _ _ _ _ _ => pts_nil) (fun _ _ _ _ _ => pe_callTy tupS (by rfl) B.tuple boot_tuple (pa_cons (pv 8) pa_nil))) pa_nil)))))), ?_⟩
    have n12 := G.n12
    have en : ((n : Int)).toNat = n := by omega
    have ei : ∀ k : Nat, (0 : Int) + (k : Nat) = (k : Nat) := fun k => Int.zero_add _
    -- far
    refine ⟨.ref x, rfl, x, C, dx, fs, _, rfl, e1, T.cl, T.n1, e2, n, rfl, by omega, by omega, fun D nD => lc_range (lo := 0) (n := ((n : Int)).toNat) (fun i H' => Same H H' ∧ ∃ rs : List Addr, H' D = some (.lst (rs.map V.ref)) ∧ rs.length = i ∧ rs.Nodup ∧ ∀ (s : Nat) (a : Addr), rs[s]? = some a → a ≠ D ∧ H a = none ∧ H' a = some (.lst (rowV (F0 s) n)))
      ⟨same_upd nD, [], upd_same, rfl, List.nodup_nil, fun s a e => by simp at e⟩ ?_ ?_⟩
    · rintro i H' hi ⟨sm, rs, eD, el, hnd, hrs⟩
      rw [ei]
      refine ⟨rfl, .ref x, rfl, x, C, dx, fs, _, rfl, sm _ _ e1, T.cl, T.n1, e2, n, rfl, by omega, by omega, fun D2 nD2 => lc_range (lo := 0) (n := ((n : Int)).toNat) (fun j H2 => Same H' H2 ∧ H2 D2 = some (.lst (rowV (F0 i) j))) ⟨same_upd nD2, upd_same⟩ ?_ ?_⟩
      · rintro j H2 hj ⟨sm2, eD2⟩
        rw [ei]
        have fin : ∃ acc, H2 D2 = some (.lst acc) ∧ acc.length < sizeLine ∧ Same H' (upd H2 D2 (.lst (acc ++ [oV (F0 i j)]))) ∧ (upd H2 D2 (.lst (acc ++ [oV (F0 i j)]))) D2 = some (.lst (rowV (F0 i) (j + 1))) := by
          refine ⟨_, eD2, ?_, same_put nD2 sm2, ?_⟩
          · rw [rowV_len]
            exact small1000 (by omega)
          · rw [upd_same, rowV_snoc]
        refine ⟨rfl, nV i, rfl, nV j, rfl, rfl, _, rfl, ite2 (fun e => ?_) (fun e => ?_)⟩
        · have e : (i : Int) = j := V.int.inj (of_decide_eq_true e)
          have e : i = j := by omega
          have : F0 i j = some 0 := by unfold F0; rw [if_pos e]
          rw [this] at fin
          exact fin
        · have : F0 i j = none := by
            unfold F0
            rw [if_neg fun z => e (decide_eq_true (by rw [z]))]
          rw [this] at fin
          exact fin
      · rintro H2 ⟨sm2, eD2⟩
        rw [en] at eD2
        have nDD : D2 ≠ D := (ne_of_none eD nD2).symm
        refine ⟨rs.map V.ref, sm2 _ _ eD, ?_, same_put nD (sm.trans sm2), rs ++ [D2], ?_, ?_, ?_, ?_⟩
        · rw [List.length_map, el]
          exact small1000 (by omega)
        · rw [upd_same, List.map_append]
          rfl
        · rw [List.length_append, el]
          rfl
        · rw [List.nodup_append]
          refine ⟨hnd, by simp, fun b hb c hc z => ?_⟩
          rw [List.mem_singleton.mp hc] at z
          obtain ⟨j, hj⟩ := List.getElem?_of_mem hb
          obtain ⟨_, _, q3⟩ := hrs j b hj
          rw [z, nD2] at q3
          cases q3
        · intro s b hb
          by_cases c : s < rs.length
          · rw [List.getElem?_append_left c] at hb
            obtain ⟨q1, q2, q3⟩ := hrs s b hb
            exact ⟨q1, q2, by rw [upd_ne q1]; exact sm2 _ _ q3⟩
          · rw [List.getElem?_append_right (by omega)] at hb
            have hs : s = rs.length ∧ b = D2 := by
              cases z : s - rs.length with
              | zero =>
                rw [z] at hb
                exact ⟨by omega, (Option.some.inj hb).symm⟩
              | succ k =>
                rw [z] at hb
                simp at hb
            obtain ⟨rfl, rfl⟩ := hs
            exact ⟨nDD, sm.free nD2, by rw [upd_ne nDD, el]; exact eD2⟩
    · rintro H1 ⟨s1, rs, eD, el, hnd, hrs⟩
      have el : rs.length = n := by omega
      have new : ∀ (s : Nat) (a : Addr), rs[s]? = some a → H a = none := fun s a e => (hrs s a e).2.1
      have F1 : Far H1 D rs n F0 := ⟨eD, el, hnd, fun a ha => let ⟨j, hj⟩ := List.getElem?_of_mem ha; (hrs j a hj).1, fun i a e => (hrs i a e).2.2⟩
      -- the links
      refine ⟨.ref x, rfl, x, C, dx, fs, _, rfl, s1 _ _ e1, T.cl, T.n4, e3, pl, rfl, ⟨_, SqT.of (s1 _ _ ePl)⟩, for_tup (K := K) (a := pl) (xs := as.map V.ref) (fun i σ H' => ∃ y1 y2 y4 y5 y6 : Option V, σ = [some (.ref x), y1, y2, some (.ref D), y4, y5, y6, none, none] ∧ Same H H' ∧ Far H' D rs n (((ns ++ bs).take i).foldl relax F0))
        ⟨_, _, _, _, _, rfl, s1, F1⟩ (fun i σ H' _ z => ?_) ?_ ?_⟩
      · obtain ⟨_, _, _, _, _, _, sm, _⟩ := z
        exact SqT.of (sm _ _ ePl)
      · rintro i y σ H' hy ⟨y1, y2, y4, y5, y6, rfl, sm, Fa⟩
        obtain ⟨a, ha, rfl⟩ := ref_at hy
        obtain ⟨l, hl, wd, ix, ht⟩ := L.at_ i a ha
        have hlm := List.mem_of_getElem? hl
        obtain ⟨g1, g2⟩ := G.all l hlm
        rw [foldl_take hl]
        generalize ((ns ++ bs).take i).foldl relax F0 = F at Fa ⊢
        obtain ⟨ra, hra, hrv, hrow⟩ := Fa.at_ g1
        have cell := rowV_at (F l.1) g2
        refine ⟨a, _, rfl, SqT.of (sm _ _ ht), rfl, nV l.1, _, rfl, nV l.2.1, _, rfl, nV l.2.2, _, rfl, wd, _, rfl, ix, _, rfl, rfl, ?_⟩
        have stay : low (F l.1 l.2.1) l.2.2 = F l.1 l.2.1 → ∃ y1 y2 y4 y5 y6 : Option V, [some (V.ref x), some (nV l.1), some (nV l.2.1), some (.ref D), some (nV l.2.2), some wd, some ix, none, none] = [some (.ref x), y1, y2, some (.ref D), y4, y5, y6, none, none] ∧ Same H H' ∧ Far H' D rs n (relax F l) := fun e => by
          refine ⟨_, _, _, _, _, rfl, sm, Fa.congr fun i j _ _ => ?_⟩
          unfold relax
          by_cases c : i = l.1 ∧ j = l.2.1
          · rw [if_pos c, e, c.1, c.2]
          · rw [if_neg c]
        have put : low (F l.1 l.2.1) l.2.2 = some l.2.2 → ∃ y1 y2 y4 y5 y6 : Option V, [some (V.ref x), some (nV l.1), some (nV l.2.1), some (.ref D), some (nV l.2.2), some wd, some ix, none, none] = [some (.ref x), y1, y2, some (.ref D), y4, y5, y6, none, none] ∧
            Same H (upd H' ra (.lst ((rowV (F l.1) n).set l.2.1 (oV (some l.2.2))))) ∧ Far (upd H' ra (.lst ((rowV (F l.1) n).set l.2.1 (oV (some l.2.2))))) D rs n (relax F l) := fun e => by
          refine ⟨_, _, _, _, _, rfl, same_put (new _ _ hra) sm, ?_⟩
          refine (Fa.upd hra (g := fun j => if j = l.2.1 then some l.2.2 else F l.1 j) (by rw [upd_same, rowV_set]) fun b o z nb => by rw [upd_ne nb]; exact z).congr fun i j _ _ => ?_
          unfold relax
          by_cases c : i = l.1
          · by_cases c2 : j = l.2.1
            · rw [if_pos c, if_pos c2, if_pos ⟨c, c2⟩, e]
            · rw [if_pos c, if_neg c2, if_neg (fun z => c2 z.2), c]
          · rw [if_neg c, if_neg (fun z => c z.1)]
        refine ⟨.ref D, rfl, nV l.1, rfl, D, _, _, .ref ra, rfl, rfl, SqL.of Fa.top, atI_nat hrv, nV l.2.1, rfl, ra, _, _, oV (F l.1 l.2.1), rfl, rfl, SqL.of hrow, atI_nat cell, rfl, _, rfl, ?_⟩
        cases eF : F l.1 l.2.1 with
        | none =>
          refine ⟨nV l.2.2, rfl, .ref D, rfl, nV l.1, rfl, D, _, _, .ref ra, rfl, rfl, SqL.of Fa.top, atI_nat hrv, nV l.2.1, rfl, ra, _, _, l.2.1, rfl, rfl, hrow, ixN_nat (by rw [rowV_len]; exact g2), ?_⟩
          exact put (by rw [eF]; rfl)
        | some z =>
          rw [eF] at cell
          refine ⟨.ref D, rfl, nV l.1, rfl, D, _, _, .ref ra, rfl, rfl, SqL.of Fa.top, atI_nat hrv, nV l.2.1, rfl, ra, _, _, oV (some z), rfl, rfl, SqL.of hrow, atI_nat cell, nV l.2.2, rfl, (z : Int), (l.2.2 : Int), rfl, rfl, _, rfl, ?_⟩
          by_cases c : l.2.2 < z
          · rw [decide_eq_true (show (l.2.2 : Int) < (z : Int) by omega)]
            refine ⟨nV l.2.2, rfl, .ref D, rfl, nV l.1, rfl, D, _, _, .ref ra, rfl, rfl, SqL.of Fa.top, atI_nat hrv, nV l.2.1, rfl, ra, _, _, l.2.1, rfl, rfl, hrow, ixN_nat (by rw [rowV_len]; exact g2), ?_⟩
            exact put (by rw [eF]; unfold low; simp [c])
          · rw [decide_eq_false (show ¬ (l.2.2 : Int) < (z : Int) by omega)]
            exact stay (by rw [eF]; unfold low; simp [c])
      · rintro σ H2 ⟨y1, y2, y4, y5, y6, rfl, s2, Fa⟩
        rw [List.length_map, L.len, List.take_of_length_le (Nat.le_refl _)] at Fa
        have Fa : Far H2 D rs n (fw (finit (ns ++ bs)) 0) := Fa
        -- for middle
        refine ⟨.ref x, rfl, x, C, dx, fs, _, rfl, s2 _ _ e1, T.cl, T.n1, e2, n, rfl, by omega, by omega, for_range (lo := 0) (n := ((n : Int)).toNat) (fun m σ H' => ∃ y1 y2 y4 y5 y6 y7 : Option V, σ = [some (.ref x), y1, y2, some (.ref D), y4, y5, y6, y7, none] ∧ Same H H' ∧ Far H' D rs n (fw (finit (ns ++ bs)) m))
          ⟨_, _, _, _, _, _, rfl, s2, Fa⟩ ?_ ?_⟩
        · rintro m σ H' hm ⟨y1, y2, y4, y5, y6, y7, rfl, sm, Fm⟩
          rw [ei, fw_succ]
          have self := fw_self (ns ++ bs) m m
          generalize fw (finit (ns ++ bs)) m = G0 at Fm self ⊢
          refine ⟨.ref x, rfl, x, C, dx, fs, _, rfl, sm _ _ e1, T.cl, T.n1, e2, n, rfl, by omega, by omega, for_range (lo := 0) (n := ((n : Int)).toNat) (fun i σ H2 => ∃ y1 y2 y4 y5 y6 : Option V, σ = [some (.ref x), y1, y2, some (.ref D), y4, y5, y6, some (nV m), none] ∧ Same H H2 ∧ Far H2 D rs n (fun a b => if a < i then mid m G0 a b else G0 a b))
            ⟨_, _, _, _, _, rfl, sm, Fm.congr fun i j _ _ => by rw [if_neg (Nat.not_lt_zero _)]⟩ ?_ ?_⟩
          · rintro i σ H2 hi ⟨y1, y2, y4, y5, y6, rfl, s2, Fi⟩
            rw [ei]
            have hi : i < n := by omega
            have hm : m < n := by omega
            obtain ⟨ra, hra, hrv, hrow⟩ := Fi.at_ hi
            obtain ⟨rb, hrb, hrw, hmid⟩ := Fi.at_ hm
            have er : rowV (fun b => if i < i then mid m G0 i b else G0 i b) n = rowV (G0 i) n := rowV_congr fun j _ => if_neg (Nat.lt_irrefl _)
            have em : rowV (fun b => if m < i then mid m G0 m b else G0 m b) n = rowV (G0 m) n := rowV_congr fun j _ => by
              by_cases c : m < i
              · rw [if_pos c, mid_self self]
              · rw [if_neg c]
            have hrow : H2 ra = some (.lst (rowV (G0 i) n)) := by rw [hrow]; exact congrArg (fun z => some (HO.lst z)) er
            have hmid : H2 rb = some (.lst (rowV (G0 m) n)) := by rw [hmid]; exact congrArg (fun z => some (HO.lst z)) em
            have cell := rowV_at (G0 i) hm
            have next : ∀ {H3 : Hp}, Far H3 D rs n (fun r => if r = i then mid m G0 i else fun b => if r < i then mid m G0 r b else G0 r b) → Far H3 D rs n (fun a b => if a < i + 1 then mid m G0 a b else G0 a b) := fun h => h.congr fun a b _ _ => by
              by_cases c : a = i
              · subst c
                rw [if_pos rfl, if_pos (by omega)]
              · rw [if_neg c]
                by_cases c2 : a < i
                · rw [if_pos c2, if_pos (by omega)]
                · rw [if_neg c2, if_neg (by omega)]
            refine ⟨.ref D, rfl, nV i, rfl, D, _, _, .ref ra, rfl, rfl, SqL.of Fi.top, atI_nat hrv, nV m, rfl, ra, _, _, oV (G0 i m), rfl, rfl, SqL.of hrow, atI_nat cell, rfl, _, rfl, ?_⟩
            cases eG : G0 i m with
            | none =>
              refine ⟨_, _, _, _, _, rfl, s2, next ((Fi.upd (H' := H2) hra (g := mid m G0 i) ?_ fun b o z _ => z))⟩
              rw [hrow]
              refine congrArg (fun z => some (HO.lst z)) (rowV_congr fun j _ => ?_)
              unfold mid
              rw [eG]
            | some y =>
              rw [eG] at cell
              refine ⟨.ref D, rfl, nV i, rfl, D, _, _, .ref ra, rfl, rfl, SqL.of Fi.top, atI_nat hrv, .ref D, rfl, nV m, rfl, D, _, _, .ref rb, rfl, rfl, SqL.of Fi.top, atI_nat hrw,
                .ref D, rfl, nV i, rfl, D, _, _, .ref ra, rfl, rfl, SqL.of Fi.top, atI_nat hrv, nV m, rfl, ra, _, _, oV (some y), rfl, rfl, SqL.of hrow, atI_nat cell, ?_⟩
              refine ⟨ra, rb, y, n, G0 i, G0 m, rfl, hrow, hmid, by omega, fun z => ?_, fun H3 e3 k3 => ?_⟩
              · have := nd_ix Fi.nd hra (z ▸ hrb)
                subst this
                rw [self] at eG
                exact (Option.some.inj eG).symm
              · refine ⟨_, _, _, _, _, rfl, fun b o z => k3 b o (s2 _ _ z) (ne_of_none z (new _ _ hra)), next (Fi.upd hra (g := mid m G0 i) ?_ k3)⟩
                rw [e3]
                refine congrArg (fun z => some (HO.lst z)) (rowV_congr fun j _ => ?_)
                unfold mid lowf
                rw [eG]
                cases G0 m j <;> rfl
          · rintro σ H2 ⟨y1, y2, y4, y5, y6, rfl, s2, Fi⟩
            refine ⟨_, _, _, _, _, _, rfl, s2, Fi.congr fun i j hi _ => ?_⟩
            rw [if_pos (by omega)]
        · rintro σ H3 ⟨y1, y2, y4, y5, y6, y7, rfl, s3, Ff⟩
          rw [en] at Ff
          have Ff : Far H3 D rs n (lr (ns ++ bs)) := Ff.congr fun i j _ _ => fw_lr G.all i j
          -- the tuple of tuples
          refine ⟨_, rfl, D, rfl, ⟨_, SqL.of Ff.top⟩, fun L2 nL => lc_list (K := K) (a := D) (xs := rs.map V.ref) (fun i H' => Same H3 H' ∧ ∃ ts : List Addr, H' L2 = some (.lst (ts.map V.ref)) ∧ ts.length = i ∧ ∀ (s : Nat) (t : Addr), ts[s]? = some t → H' t = some (.tup (rowV (lr (ns ++ bs) s) n)))
            ⟨same_upd nL, [], upd_same, rfl, fun s t e => by simp at e⟩ (fun i H' _ z => SqL.of (z.1 _ _ Ff.top)) ?_ ?_⟩
          · rintro i y H' hy ⟨sm, ts, eL, et, hts⟩
            obtain ⟨a, ha, rfl⟩ := ref_at hy
            have hrow := sm _ _ (Ff.row i a ha)
            refine ⟨rfl, _, rfl, a, _, rfl, .inl ⟨SqL.of hrow, fun t nt => ?_⟩⟩
            have st := same_upd (o := .tup (rowV (lr (ns ++ bs) i) n)) nt
            have eLt := st _ _ eL
            refine ⟨ts.map V.ref, eLt, ?_, same_put nL (sm.trans st), ts ++ [t], ?_, ?_, fun s b hb => ?_⟩
            · rw [List.length_map, et]
              have := (List.getElem?_eq_some_iff.mp ha).1
              exact small1000 (by omega)
            · rw [upd_same, List.map_append]
              rfl
            · rw [List.length_append, et]
              rfl
            · by_cases c : s < ts.length
              · rw [List.getElem?_append_left c] at hb
                have z := st _ _ (hts s b hb)
                rw [upd_ne (ne_of z eLt (fun z => nomatch z))]
                exact z
              · rw [List.getElem?_append_right (by omega)] at hb
                have hs : s = ts.length ∧ b = t := by
                  cases z : s - ts.length with
                  | zero =>
                    rw [z] at hb
                    exact ⟨by omega, (Option.some.inj hb).symm⟩
                  | succ k =>
                    rw [z] at hb
                    simp at hb
                obtain ⟨rfl, rfl⟩ := hs
                rw [et, upd_ne (ne_of_none eL nt).symm, upd_same]
          · rintro H4 ⟨s4, ts, eL, et, hts⟩
            refine ⟨L2, _, rfl, .inl ⟨SqL.of eL, fun t nt => ?_⟩⟩
            have st := same_upd (o := .tup (ts.map V.ref)) nt
            refine q _ t ((s3.trans s4).trans st) ((s3.trans s4).free nt) ⟨ts, upd_same, by rw [et, List.length_map, el], fun i a e => st _ _ (hts i a e)⟩
/-! ### least_rounds -/
abbrev sLeast : Stmt := topS 25
theorem sc_least : FnScope ["program", "one", "other"] ["program", "one", "other"] (defScope sLeast) := ⟨rfl, rfl, rfl, by decide +kernel, rfl, by decide +kernel, by decide +kernel⟩
def spLeast (C : Addr) : Sp := fun vs H Q _ => ∃ (x : Addr) (n a b : Nat) (ns bs : List L3), vs = [.ref x, nV a, nV b] ∧ ProgAt C H x n ns bs ∧ Good n ns bs ∧ a < n ∧ b < n ∧ ∀ H', Same H H' → Q (oV (lr (ns ++ bs) a b)) H'
theorem ok_least {f f1 f2 C : Addr} {fd fd1 fd2 : FuncData} (F : Fun K "least_rounds" "least_rounds" sLeast f fd) (C1 : Cal P w K mg base 4 "check_step" f1 fd1 ["program", "thing"] (spStep C .non)) (C2 : Cal P w K mg base 2 "rounds_table" f2 fd2 ["program"] (spRounds C)) :
    FnOk P w K mg base CX0 5 f fd ["program", "one", "other"] (spLeast C) := by
  refine F.ok sc_least (fun vs H Q E h => ?_) (fun cdv A outer s H vs Q E hr h => ?_)
  · obtain ⟨x, n, a, b, ns, bs, rfl, _⟩ := h
    rfl
  · obtain ⟨x, n, a, b, ns, bs, rfl, hP, G, ha, hb, q⟩ := h
    refine ⟨_, pss_cons (ps_expr (pcal C1 hr (pa_cons (pv 0) (pa_cons (pv 1) pa_nil)))) (pss_cons (ps_expr (pcal C1 hr (pa_cons (pv 0) (pa_cons (pv 2) pa_nil))))
      (pss_one (ps_ret (pe_ix ix_tup (pe_ix ix_tup (pcal C2 (hr.mono (by decide)) (pa_cons (pv 0) pa_nil)) (pv 1) (fun _ _ => rfl)) (pv 2) (fun _ _ => rfl))))), ?_⟩
    refine ⟨.ref x, rfl, nV a, rfl, x, n, a, ns, bs, rfl, hP, ha, ?_⟩
    refine ⟨.ref x, rfl, nV b, rfl, x, n, b, ns, bs, rfl, hP, hb, ?_⟩
    refine ⟨.ref x, rfl, x, n, ns, bs, rfl, hP, G, fun H1 t s1 nt ⟨rs, e1, e2, e3⟩ => ?_⟩
    have hi : a < rs.length := by omega
    have er : rs[a]? = some rs[a] := List.getElem?_eq_getElem hi
    exact ⟨nV a, rfl, t, _, _, .ref rs[a], rfl, rfl, SqT.of e1, atI_nat (by rw [List.getElem?_map, er]; rfl), nV b, rfl, rs[a], _, _, _, rfl, rfl, SqT.of (e3 _ _ er), atI_nat (rowV_at _ hb), q H1 s1⟩
end
end L2.Ac
namespace L2.Ac
open PySem PySem.Spec PyProof.Rows
open _root_.Ac
/-! ### distance_by -/
def Way (f : Nat → Option Nat) (H : Hp) (c : Addr) (p : Nat × Nat) : Prop := H c = some (.tup [nV p.2, oV (f p.1)])
theorem snoc_at {α : Type} {xs : List α} {x b : α} {s : Nat} (h : (xs ++ [x])[s]? = some b) : (s < xs.length ∧ xs[s]? = some b) ∨ (s = xs.length ∧ b = x) := by
  by_cases c : s < xs.length
  · rw [List.getElem?_append_left c] at h
    exact .inl ⟨c, h⟩
  · rw [List.getElem?_append_right (by omega)] at h
    cases z : s - xs.length with
    | zero =>
      rw [z] at h
      exact .inr ⟨by omega, (Option.some.inj h).symm⟩
    | succ k =>
      rw [z] at h
      simp at h
section
variable {P : Program} {w : World} {K : PySem.W.Frag} {mg : Str → Option Value} {base : Heap}
abbrev sDistBy : Stmt := topS 27
abbrev nDistBy : List Str := ["program", "table", "one", "other", "ways", "reader", "rounds", "least"]
theorem sc_dist_by : FnScope nDistBy ["program", "table", "one", "other"] (defScope sDistBy) := ⟨rfl, rfl, rfl, by decide +kernel, rfl, by decide +kernel, by decide +kernel⟩
def spDistBy (C : Addr) : Sp := fun vs H Q _ => ∃ (x t : Addr) (n a b : Nat) (ns bs : List L3), vs = [.ref x, .ref t, nV a, nV b] ∧ ProgAt C H x n ns bs ∧ TabT H t n (lr (ns ++ bs)) ∧ Good n ns bs ∧ a ∈ mks n ns ∧ b < n ∧ ∀ H', Same H H' → Q (oV (ds ns bs a b)) H'
theorem ok_dist_by {f C : Addr} {fd : FuncData} (F : Fun K "distance_by" "distance_by" sDistBy f fd) (B : Bi mg) (T : PC K mg C) : FnOk P w K mg base CX0 1 f fd ["program", "table", "one", "other"] (spDistBy C) := by
  refine F.ok sc_dist_by (fun vs H Q E h => ?_) (fun cdv A outer s H vs Q E hr h => ?_)
  · obtain ⟨x, t, n, a, b, ns, bs, rfl, _⟩ := h
    rfl
  · obtain ⟨x, t, n, a, b, ns, bs, rfl, ⟨dx, fs, pl, pr, pm, e1, e2, e3, e4, e5, e6, ⟨ts, eR, lR, hR⟩, e8⟩, ⟨rs, eT, lT, hT⟩, G, ha, hb, q⟩ := h
    have nd := sc_dist_by.nd
    refine ⟨_, pss_cons (ps_setLc (i := 4) (own := [("reader", 5), ("rounds", 6)]) (g := gT2 K 5 6) (tt := tYes) (te := tTup (tCons (tVar 6) (tCons (tOp (rIxT K) (tOp (rIxT K) (tVar 1) (tVar 5)) (tVar 3)) tNil))) (by rfl) nd rfl rfl (sw_true rfl rfl rfl (by decide +kernel))
        (pi_tup (pe_ix ix_list (pe_fld (pv 0) rfl) (pv 2) (fun _ _ => rfl))) (blkOk_by (N := nDistBy) (sc := defScope sDistBy) (by decide +kernel))
        (fun _ _ _ _ _ => pg_tup (by rfl) (pgs_cons (pg_name (i := 5) nd rfl (Or.inl rfl)) (pgs_cons (pg_name (i := 6) nd rfl (Or.inl rfl)) pgs_nil))) (fun _ _ _ _ _ => pts_nil)
        (fun _ _ _ _ _ => pe_tup (pa_cons (pv 6) (pa_cons (pe_ix ix_tup (pe_ix ix_tup (pv 1) (pv 5) (fun _ _ => rfl)) (pv 3) (fun _ _ => rfl)) pa_nil))))
      (pss_cons (ps_if (pt_val (pe_callB (cr_any rfl) (by rfl) B.any boot_any (pa_cons (pe_lc (own := [("rounds", 6), ("least", 7)]) (g := gT2 K 6 7) (tt := tYes) (by rfl) nd (pi_list (pv 4)) (blkOk_by (N := nDistBy) (sc := defScope sDistBy) (by decide +kernel))
          (fun _ _ _ _ _ => pg_tup (by rfl) (pgs_cons (pg_name (i := 6) nd rfl (Or.inl rfl)) (pgs_cons (pg_name (i := 7) nd rfl (Or.inl rfl)) pgs_nil))) (fun _ _ _ _ _ => pts_nil) (fun _ _ _ _ _ => pe_cmpR op_isN (pv 7) pe_non (nomark _))) pa_nil)))
        (pss_one (ps_ret pe_non)) pss_nil)
      (pss_one (ps_ret (pe_callB (cr_max rfl) (by rfl) B.max boot_max (pa_cons (pe_lc (own := [("rounds", 6), ("least", 7)]) (g := gT2 K 6 7) (tt := tYes) (by rfl) nd (pi_list (pv 4)) (blkOk_by (N := nDistBy) (sc := defScope sDistBy) (by decide +kernel))
          (fun _ _ _ _ _ => pg_tup (by rfl) (pgs_cons (pg_name (i := 6) nd rfl (Or.inl rfl)) (pgs_cons (pg_name (i := 7) nd rfl (Or.inl rfl)) pgs_nil))) (fun _ _ _ _ _ => pts_nil) (fun _ _ _ _ _ => pe_op op_add (pv 6) (pv 7))) pa_nil))))), ?_⟩
    obtain ⟨han, hrd⟩ := mem_mks.mp ha
    have hta : ts[a]? = some ts[a] := List.getElem?_eq_getElem (by omega)
    obtain ⟨ps, ⟨cs, ec, ee⟩, hp⟩ := hR a _ hta
    have hmem : ∀ p, p ∈ ps ↔ p ∈ rds ns a := fun p => hp.mem_iff
    have hlt : ∀ p, p ∈ ps → p.1 < n := fun p h => (G.okn _ (mem_rds.mp ((hmem p).mp h))).2.1
    have hpos : 0 < ps.length := by rw [hp.length_eq]; exact hrd
    have hsmall : ps.length ≤ 100 := by
      rw [hp.length_eq]
      unfold rds
      rw [List.length_map]
      have h1 := List.length_filter_le (fun l : L3 => l.1 == a) ns
      have h2 := G.ln
      omega
    have eD : ds ns bs a b = dist (fun y => lr (ns ++ bs) y b) ps := dist_perm fun p => (hmem p).symm
    rw [eD] at q
    generalize eg : (fun y => lr (ns ++ bs) y b) = g at q
    have gAt : ∀ y, lr (ns ++ bs) y b = g y := fun y => by rw [← eg]
    -- ways
    refine ⟨.ref x, rfl, x, C, dx, fs, _, rfl, e1, T.cl, T.n5, e4, nV a, rfl, pr, _, _, .ref ts[a], rfl, rfl, SqL.of eR, atI_nat (by rw [List.getElem?_map, hta]; rfl), ts[a], rfl, ⟨_, SqT.of ec⟩,
      fun D nD => lc_tup (K := K) (a := ts[a]) (xs := cs.map V.ref) (fun i H' => Same H H' ∧ ∃ ws : List Addr, H' D = some (.lst (ws.map V.ref)) ∧ Each (Way g H') ws (ps.take i)) ⟨same_upd nD, [], upd_same, by rw [List.take_zero]; exact Each.nil⟩ (fun i H' _ z => SqT.of (z.1 _ _ ec)) ?_ ?_⟩
    · rintro i y H' hy ⟨sm, ws, eW, ew⟩
      obtain ⟨c, hc, rfl⟩ := ref_at hy
      obtain ⟨p, hpi, ep⟩ := ee.at_ i c hc
      have hpm := List.mem_of_getElem? hpi
      have hpn := hlt p hpm
      have hrp : rs[p.1]? = some rs[p.1] := List.getElem?_eq_getElem (by omega)
      have cell := rowV_at (lr (ns ++ bs) p.1) hb
      rw [gAt] at cell
      refine ⟨c, _, rfl, SqT.of (sm _ _ ep), rfl, nV p.1, _, rfl, nV p.2, _, rfl, rfl, rfl, nV p.2, rfl, .ref t, rfl, nV p.1, rfl, t, _, _, .ref rs[p.1], rfl, rfl, SqT.of (sm _ _ eT), atI_nat (by rw [List.getElem?_map, hrp]; rfl),
        nV b, rfl, rs[p.1], _, _, oV (g p.1), rfl, rfl, SqT.of (sm _ _ (hT _ _ hrp)), atI_nat cell, (by show 2 ≤ sizeLine; decide), fun u nu => ?_⟩
      have su := same_upd (o := .tup [nV p.2, oV (g p.1)]) nu
      have eWu := su _ _ eW
      refine ⟨ws.map V.ref, eWu, ?_, same_put nD (sm.trans su), ws ++ [u], ?_, ?_⟩
      · rw [List.length_map, ew.len, List.length_take]
        exact small1000 (by omega)
      · rw [upd_same, List.map_append]
        rfl
      · rw [take_snoc hpi]
        refine (ew.mono fun d r z => ?_).snoc ?_
        · unfold Way
          have z' := su _ _ z
          rw [upd_ne (ne_of z' eWu (fun z => nomatch z))]
          exact z'
        · unfold Way
          rw [upd_ne (ne_of_none eW nu).symm, upd_same]
    · rintro H1 ⟨s1, ws, eW, ew⟩
      rw [List.length_map, ee.len, List.take_of_length_le (Nat.le_refl _)] at ew
      -- any
      refine ⟨.ref D, rfl, D, rfl, ⟨_, SqL.of eW⟩, fun D2 nD2 => lc_list (K := K) (a := D) (xs := ws.map V.ref) (fun i H' => Same H1 H' ∧ H' D2 = some (.lst ((((ps.take i).map fun p => decide (g p.1 = none))).map V.bl))) ⟨same_upd nD2, by rw [upd_same, List.take_zero]; rfl⟩ (fun i H' _ z => SqL.of (z.1 _ _ eW)) ?_ ?_⟩
      · rintro i y H' hy ⟨sm, eB⟩
        obtain ⟨c, hc, rfl⟩ := ref_at hy
        obtain ⟨p, hpi, ep⟩ := ew.at_ i c hc
        refine ⟨c, _, rfl, SqT.of (sm _ _ ep), rfl, nV p.2, _, rfl, oV (g p.1), _, rfl, rfl, rfl, oV (g p.1), rfl, rfl, _, eB, ?_, same_put nD2 sm, ?_⟩
        · rw [List.length_map, List.length_map, List.length_take]
          exact small1000 (by omega)
        · rw [upd_same, take_snoc hpi, List.map_append, List.map_append]
          have : decide (oV (g p.1) = V.non) = decide (g p.1 = none) := by
            cases g p.1 with
            | none => rfl
            | some z => rfl
          rw [this]
          rfl
      · rintro H2 ⟨s2, eB⟩
        have lw : (ws.map V.ref).length = ps.length := by rw [List.length_map, ew.len]
        rw [lw, List.take_of_length_le (Nat.le_refl _)] at eB
        refine ⟨D2, _, rfl, SqL.of eB, _, rfl, ite2 (fun e => ?_) (fun e => ?_)⟩
        · -- None
          rw [List.any_map, List.any_eq_true] at e
          obtain ⟨p, h1, h2⟩ := e
          have h2 : decide (g p.1 = none) = true := h2
          have z := dist_none h1 (of_decide_eq_true h2)
          rw [z] at q
          exact q H2 (s1.trans s2)
        · have hall : ∀ p, p ∈ ps → ∃ z, g p.1 = some z := fun p h1 => by
            cases c : g p.1 with
            | some z => exact ⟨z, rfl⟩
            | none =>
              refine absurd ?_ e
              rw [List.any_map, List.any_eq_true]
              exact ⟨p, h1, decide_eq_true c⟩
          have eW2 := s2 _ _ eW
          refine ⟨.ref D, rfl, D, rfl, ⟨_, SqL.of eW2⟩, fun D3 nD3 => lc_list (K := K) (a := D) (xs := ws.map V.ref) (fun i H' => Same H2 H' ∧ H' D3 = some (.lst ((((ps.take i).map fun p => ((p.2 + (g p.1).getD 0 : Nat) : Int))).map V.int))) ⟨same_upd nD3, by rw [upd_same, List.take_zero]; rfl⟩ (fun i H' _ z => SqL.of (z.1 _ _ eW2)) ?_ ?_⟩
          · rintro i y H' hy ⟨sm, eB⟩
            obtain ⟨c, hc, rfl⟩ := ref_at hy
            obtain ⟨p, hpi, ep⟩ := ew.at_ i c hc
            obtain ⟨z, hz⟩ := hall p (List.mem_of_getElem? hpi)
            have ep : H1 c = some (.tup [nV p.2, nV z]) := by
              have e := ep
              unfold Way at e
              rw [hz] at e
              exact e
            refine ⟨c, _, rfl, SqT.of (sm _ _ (s2 _ _ ep)), rfl, nV p.2, _, rfl, nV z, _, rfl, rfl, rfl, nV p.2, rfl, nV z, rfl, (p.2 : Int), (z : Int), rfl, rfl, _, eB, ?_, same_put nD3 sm, ?_⟩
            · rw [List.length_map, List.length_map, List.length_take]
              exact small1000 (by omega)
            · rw [upd_same, take_snoc hpi, List.map_append, List.map_append]
              congr 3
              show [V.int ((p.2 : Int) + (z : Int))] = [V.int ((p.2 + (g p.1).getD 0 : Nat) : Int)]
              rw [hz]
              rfl
          · rintro H3 ⟨s3, eB⟩
            rw [lw, List.take_of_length_le (Nat.le_refl _)] at eB
            refine ⟨D3, _, rfl, SqL.of eB, by rw [List.length_map]; exact hpos, fun m hm hmax => ?_⟩
            obtain ⟨p, h1, h2⟩ := List.mem_map.mp hm
            obtain ⟨z, hz⟩ := hall p h1
            rw [hz] at h2
            have h2 : ((p.2 + z : Nat) : Int) = m := h2
            have ed : dist g ps = some (p.2 + z) := dist_max (fun r hr => by
              obtain ⟨y, hy⟩ := hall r hr
              refine ⟨y, hy, ?_⟩
              have := hmax _ (List.mem_map.mpr ⟨r, hr, rfl⟩)
              rw [hy] at this
              have h3 : ((r.2 + y : Nat) : Int) ≤ m := this
              omega) ⟨p, h1, z, hz, rfl⟩
            rw [ed] at q
            have := q H3 ((s1.trans s2).trans s3)
            rw [← h2]
            exact this
end
end L2.Ac
namespace L2.Ac
open PySem PySem.Spec PyProof.Rows
open _root_.Ac
section
variable {P : Program} {w : World} {K : PySem.W.Frag} {mg : Str → Option Value} {base : Heap}
/-! ### distance -/
abbrev sDistance : Stmt := topS 29
theorem sc_distance : FnScope ["program", "one", "other"] ["program", "one", "other"] (defScope sDistance) := ⟨rfl, rfl, rfl, by decide +kernel, rfl, by decide +kernel, by decide +kernel⟩
def spDistance (C : Addr) : Sp := fun vs H Q _ => ∃ (x : Addr) (n a b : Nat) (ns bs : List L3), vs = [.ref x, nV a, nV b] ∧ ProgAt C H x n ns bs ∧ Good n ns bs ∧ a ∈ mks n ns ∧ b ∈ mks n ns ∧ ∀ H', Same H H' → Q (oV (ds ns bs a b)) H'
theorem ok_distance {f f1 f2 f3 C : Addr} {fd fd1 fd2 fd3 : FuncData} (F : Fun K "distance" "distance" sDistance f fd) (C1 : Cal P w K mg base 4 "check_maker" f1 fd1 ["program", "thing"] (spCheckMaker C)) (C2 : Cal P w K mg base 2 "rounds_table" f2 fd2 ["program"] (spRounds C))
    (C3 : Cal P w K mg base 1 "distance_by" f3 fd3 ["program", "table", "one", "other"] (spDistBy C)) : FnOk P w K mg base CX0 5 f fd ["program", "one", "other"] (spDistance C) := by
  refine F.ok sc_distance (fun vs H Q E h => ?_) (fun cdv A outer s H vs Q E hr h => ?_)
  · obtain ⟨x, n, a, b, ns, bs, rfl, _⟩ := h
    rfl
  · obtain ⟨x, n, a, b, ns, bs, rfl, hP, G, ha, hb, q⟩ := h
    refine ⟨_, pss_cons (ps_expr (pcal C1 hr (pa_cons (pv 0) (pa_cons (pv 1) pa_nil)))) (pss_cons (ps_expr (pcal C1 hr (pa_cons (pv 0) (pa_cons (pv 2) pa_nil))))
      (pss_one (ps_ret (pcal C3 (hr.mono (by decide)) (pa_cons (pv 0) (pa_cons (pcal C2 (hr.mono (by decide)) (pa_cons (pv 0) pa_nil)) (pa_cons (pv 1) (pa_cons (pv 2) pa_nil)))))))), ?_⟩
    refine ⟨.ref x, rfl, nV a, rfl, x, n, a, ns, bs, rfl, hP, ha, ?_⟩
    refine ⟨.ref x, rfl, nV b, rfl, x, n, b, ns, bs, rfl, hP, hb, ?_⟩
    refine ⟨.ref x, rfl, .ref x, rfl, x, n, ns, bs, rfl, hP, G, fun H1 t s1 nt hT => ?_⟩
    exact ⟨nV a, rfl, nV b, rfl, x, t, n, a, b, ns, bs, rfl, hP.same s1, hT, G, ha, (mem_mks.mp hb).1, fun H2 s2 => q H2 (s1.trans s2)⟩
/-! ### distance_table, distances -/
abbrev sDistTab : Stmt := topS 28
abbrev nDistTab : List Str := ["program", "table", "rows", "one", "other"]
theorem sc_dist_tab : FnScope nDistTab ["program"] (defScope sDistTab) := ⟨rfl, rfl, rfl, by decide +kernel, rfl, by decide +kernel, by decide +kernel⟩
def spDistTab (C : Addr) : Sp := fun vs H Q _ => ∃ (x : Addr) (n : Nat) (ns bs : List L3), vs = [.ref x] ∧ ProgAt C H x n ns bs ∧ Good n ns bs ∧ ∀ H' t xs, Same H H' → H' t = some (.tup xs) → xs.length = (mks n ns).length → Q (.ref t) H'
theorem ok_dist_tab {f f2 f3 C : Addr} {fd fd2 fd3 : FuncData} (F : Fun K "distance_table" "distance_table" sDistTab f fd) (B : Bi mg) (T : PC K mg C) (C2 : Cal P w K mg base 2 "rounds_table" f2 fd2 ["program"] (spRounds C))
    (C3 : Cal P w K mg base 1 "distance_by" f3 fd3 ["program", "table", "one", "other"] (spDistBy C)) : FnOk P w K mg base CX0 3 f fd ["program"] (spDistTab C) := by
  refine F.ok sc_dist_tab (fun vs H Q E h => ?_) (fun cdv A outer s H vs Q E hr h => ?_)
  · obtain ⟨x, n, ns, bs, rfl, _⟩ := h
    rfl
  · obtain ⟨x, n, ns, bs, rfl, hP, G, q⟩ := h
    obtain ⟨dx, fs, pl, pr, pm, e1, e2, e3, e4, e5, e6, e7, e8⟩ := id hP
    have nd := sc_dist_tab.nd
    refine ⟨_, pss_cons (ps_set (i := 1) nd rfl (.inr rfl) (pcal C2 hr (pa_cons (pv 0) pa_nil))) (pss_cons (ps_set (i := 2) nd rfl (.inl rfl) (pe_lst pa_nil))
      (pss_cons (ps_for PassesOwn.never rfl (pi_tup (pe_fld (pv 0) rfl)) (pg_name (i := 3) nd rfl (Or.inr rfl))
        (pss_one (ps_expr (pe_bm PySem.F.plainAttrs_list PySem.F.slot_list_append PySem.F.type_list_append mt_append (pv 2) (pa_cons (pe_callTy call_tuple_of (by rfl) B.tuple boot_tuple (pa_cons
          (pe_lc (own := [("other", 4)]) (g := gName 4) (tt := tYes) (by rfl) nd (pi_tup (pe_fld (pv 0) rfl)) (blkOk_by (N := nDistTab) (sc := defScope sDistTab) (by decide +kernel)) (fun _ _ _ _ _ => pg_name (i := 4) nd rfl (Or.inl rfl)) (fun _ _ _ _ _ => pts_nil)
            (fun _ _ _ _ _ => pcal C3 (hr.mono (by decide)) (pa_cons (pv 0) (pa_cons (pv 1) (pa_cons (pv 3) (pa_cons (pv 4) pa_nil)))))) pa_nil)) pa_nil)))))
      (pss_one (ps_ret (pe_callTy call_tuple_of (by rfl) B.tuple boot_tuple (pa_cons (pv 2) pa_nil)))))), ?_⟩
    have lm : (mks n ns).length ≤ 12 := by
      unfold mks
      refine Nat.le_trans (List.length_filter_le _ _) ?_
      rw [List.length_range]
      exact G.n12
    have mkAt : ∀ {i : Nat} {y : V}, ((mks n ns).map nV)[i]? = some y → ∃ a, (mks n ns)[i]? = some a ∧ y = nV a := fun {i y} h => by
      rw [List.getElem?_map] at h
      cases e : (mks n ns)[i]? with
      | none =>
        rw [e] at h
        cases h
      | some a =>
        rw [e] at h
        exact ⟨a, rfl, (Option.some.inj h).symm⟩
    refine ⟨.ref x, rfl, x, n, ns, bs, rfl, hP, G, fun H1 t s1 nt hT => ?_⟩
    refine ⟨Nat.zero_le _, fun D nD => ?_⟩
    have sD := same_upd (o := .lst []) nD
    have s1D := s1.trans sD
    refine ⟨.ref x, rfl, x, C, dx, fs, _, rfl, s1D _ _ e1, T.cl, T.n6, e5, pm, rfl, ⟨_, SqT.of (s1D _ _ e8)⟩, for_tup (K := K) (a := pm) (xs := (mks n ns).map nV) (fun i σ H' => ∃ y3 : Option V, σ = [some (.ref x), some (.ref t), some (.ref D), y3, none] ∧ Same H1 H' ∧ ∃ rs : List V, H' D = some (.lst rs) ∧ rs.length = i)
      ⟨none, rfl, sD, [], upd_same, rfl⟩ (fun i σ H' _ z => ?_) ?_ ?_⟩
    · obtain ⟨_, _, sm, _⟩ := z
      exact SqT.of (sm _ _ (s1 _ _ e8))
    · rintro i y σ H' hy ⟨y3, rfl, sm, rs, eR, el⟩
      have s1m := s1.trans sm
      obtain ⟨a, ha, rfl⟩ := mkAt hy
      have hi := (List.getElem?_eq_some_iff.mp ha).1
      refine ⟨.ref D, rfl, .inl ⟨rfl, _, SqL.of eR⟩, .ref x, rfl, x, C, dx, fs, _, rfl, s1m _ _ e1, T.cl, T.n6, e5, pm, rfl, ⟨_, SqT.of (s1m _ _ e8)⟩,
        fun D2 nD2 => lc_tup (K := K) (a := pm) (xs := (mks n ns).map nV) (fun j H2 => Same H' H2 ∧ ∃ xs : List V, H2 D2 = some (.lst xs) ∧ xs.length = j) ⟨same_upd nD2, [], upd_same, rfl⟩ (fun j H2 _ z => SqT.of (z.1 _ _ (s1m _ _ e8))) ?_ ?_⟩
      · rintro j z H2 hz ⟨s2, xs, eX, lx⟩
        obtain ⟨b, hb, rfl⟩ := mkAt hz
        have hj := (List.getElem?_eq_some_iff.mp hb).1
        refine ⟨rfl, .ref x, rfl, .ref t, rfl, nV a, rfl, nV b, rfl, x, t, n, a, b, ns, bs, rfl, hP.same (s1m.trans s2), hT.same (sm.trans s2), G, List.mem_of_getElem? ha, (mem_mks.mp (List.mem_of_getElem? hb)).1, fun H3 s3 => ?_⟩
        exact ⟨xs, s3 _ _ eX, small1000 (by omega), same_put nD2 (s2.trans s3), _, upd_same, by rw [List.length_append, lx]; rfl⟩
      · rintro H2 ⟨s2, xs, eX, lx⟩
        refine ⟨D2, xs, rfl, .inl ⟨SqL.of eX, fun u nu => ?_⟩⟩
        have su := same_upd (o := .tup xs) nu
        refine ⟨D, rs, .ref u, rfl, rfl, su _ _ (s2 _ _ eR), small1000 (by omega), _, rfl, ?_, _, upd_same, by rw [List.length_append, el]; rfl⟩
        exact same_put nD ((sm.trans s2).trans su)
    · rintro σ H2 ⟨y3, rfl, sm, rs, eR, el⟩
      refine ⟨.ref D, rfl, D, rs, rfl, .inl ⟨SqL.of eR, fun u nu => ?_⟩⟩
      exact q _ u rs ((s1.trans sm).trans (same_upd nu)) upd_same (by rw [el, List.length_map])
abbrev sDistances : Stmt := topS 30
theorem sc_distances : FnScope ["program"] ["program"] (defScope sDistances) := ⟨rfl, rfl, rfl, by decide +kernel, rfl, by decide +kernel, by decide +kernel⟩
theorem ok_distances {f f1 C : Addr} {fd fd1 : FuncData} (F : Fun K "distances" "distances" sDistances f fd) (C1 : Cal P w K mg base 3 "distance_table" f1 fd1 ["program"] (spDistTab C)) : FnOk P w K mg base CX0 4 f fd ["program"] (spDistTab C) := by
  refine F.ok sc_distances (fun vs H Q E h => ?_) (fun cdv A outer s H vs Q E hr h => ?_)
  · obtain ⟨x, n, ns, bs, rfl, _⟩ := h
    rfl
  · obtain ⟨x, n, ns, bs, rfl, hP, G, q⟩ := h
    refine ⟨_, pss_one (ps_ret (pcal C1 hr (pa_cons (pv 0) pa_nil))), ?_⟩
    exact ⟨.ref x, rfl, x, n, ns, bs, rfl, hP, G, q⟩
end
end L2.Ac
namespace L2.Ac
open PySem PySem.Spec PyProof.Rows
open _root_.Ac
/-! ### a link not in a list or tuple of links -/
def triD (l : L3) : PyData := .tuple [.int (l.1 : Int), .int (l.2.1 : Int), .int (l.2.2 : Int)]
theorem dp_tri {K : PySem.W.Frag} {H : Hp} {t : Addr} {l : L3} (h : Tri H t l) : Dp K H (.ref t) (triD l) := .tup (SqT.of h) (.cons (.int _) (.cons (.int _) (.cons (.int _) .nil)))
theorem dp_tris {K : PySem.W.Frag} {H : Hp} : ∀ {as : List Addr} {ls : List L3}, Tris H as ls → DpAll K H (as.map V.ref) (ls.map triD)
  | [], ls, h => by
    have : ls = [] := List.eq_nil_of_length_eq_zero h.len.symm
    subst this
    exact .nil
  | a :: as, ls, h => by
    obtain ⟨l, ms, rfl, h1, h2⟩ := h.cons_inv
    exact .cons (dp_tri h1) (dp_tris h2)
theorem eqv_tri (a b : L3) : PyData.eqv (triD a) (triD b) = decide (a = b) := by
  obtain ⟨a1, a2, a3⟩ := a
  obtain ⟨b1, b2, b3⟩ := b
  simp only [triD, PyData.eqv, PyData.eqvAll, Bool.and_true]
  by_cases c : (a1, a2, a3) = (b1, b2, b3)
  · rw [decide_eq_true c]
    injection c with c1 c2
    injection c2 with c2 c3
    subst c1 c2 c3
    simp
  · rw [decide_eq_false c]
    cases z : ((a1 : Int) == b1 && ((a2 : Int) == b2 && (a3 : Int) == b3)) with
    | false => rfl
    | true =>
      simp only [Bool.and_eq_true, beq_iff_eq] at z
      exact absurd (by rw [show a1 = b1 by omega, show a2 = b2 by omega, show a3 = b3 by omega]) c
theorem any_tri (l : L3) (ls : List L3) : ((ls.map triD).any fun z => PyData.eqv z (triD l)) = decide (l ∈ ls) := by
  rw [List.any_map]
  by_cases c : l ∈ ls
  · rw [decide_eq_true c, List.any_eq_true]
    exact ⟨l, c, by show PyData.eqv (triD l) (triD l) = true; rw [eqv_tri]; exact decide_eq_true rfl⟩
  · rw [decide_eq_false c, List.any_eq_false]
    intro x hx z
    have z : PyData.eqv (triD x) (triD l) = true := z
    rw [eqv_tri] at z
    exact c (of_decide_eq_true z ▸ hx)
theorem lay_tris : ∀ ls : List L3, PyData.canLayAll0 (ls.map triD) = true
  | [] => rfl
  | l :: r => by
    rw [List.map_cons, PyData.canLayAll0, lay_tris r]
    rfl
def rNotTri (K : PySem.W.Frag) : R2 := fun x y H Q => ∃ (t p : Addr) (l : L3) (as : List Addr) (ls : List L3), x = .ref t ∧ y = .ref p ∧ Tri H t l ∧ (SqL K H p (as.map V.ref) ∨ SqT K H p (as.map V.ref)) ∧ Tris H as ls ∧ Q (.bl (!decide (l ∈ ls))) H
theorem op_notTri {X : Cx} (hu : X.A.units + 65 < cLine) : OpR X (compareOp .NotIn) (rNotTri X.K) := by
  intro pins s σ H x y v u Q I rx ry h
  obtain ⟨t, p, l, as, ls, rfl, rfl, ht, hp, hT, q⟩ := h
  obtain ⟨cs, r1⟩ := Dp.reads I (triD l) _ v (dp_tri ht) rx
  have room : X.A.units + 1 + min (PyData.depthAll (ls.map triD)) (triD l).depth < cLine := by
    have : min (PyData.depthAll (ls.map triD)) (triD l).depth ≤ 1 := Nat.le_trans (Nat.min_le_right _ _) (by simp [triD, PyData.depth, PyData.depthAll])
    omega
  rw [← any_tri] at q
  rcases hp with hp | hp
  · obtain ⟨ds, r2⟩ := Dp.reads I (.list (ls.map triD)) _ u (.lst hp (dp_tris hT)) ry
    exact SeqAt.notIn_list_reads r2 r1 (lay_tris ls) rfl room ⟨.bl _, H, I, rfl, q⟩
  · obtain ⟨ds, r2⟩ := Dp.reads I (.tuple (ls.map triD)) _ u (.tup hp (dp_tris hT)) ry
    exact SeqAt.notIn_tuple_reads r2 r1 (lay_tris ls) rfl room ⟨.bl _, H, I, rfl, q⟩
theorem hu65 {k : Nat} {A : Around} (r : Room k A) : A.units + 65 < cLine := by
  have := r.un
  omega
end L2.Ac
namespace L2.Ac
open PySem PySem.Spec PyProof.Rows
open _root_.Ac
/-! ### the pool -/
structure Pool (H : Hp) (q c : Addr) : Prop where
  ne : q ≠ c
  top : ∃ s k : Int, H q = some (.lst [.int s, .int k, .ref c])
  cells : ∃ cs : List Int, H c = some (.lst (cs.map V.int))
/-- all but the pool is as it was -/
def KeepP (q c : Addr) (H H' : Hp) : Prop := ∀ b o, b ≠ q → b ≠ c → H b = some o → H' b = some o
theorem KeepP.refl {q c : Addr} {H : Hp} : KeepP q c H H := fun _ _ _ _ e => e
theorem KeepP.trans {q c : Addr} {H H1 H2 : Hp} (a : KeepP q c H H1) (b : KeepP q c H1 H2) : KeepP q c H H2 := fun x o n1 n2 e => b x o n1 n2 (a x o n1 n2 e)
theorem KeepP.of {q c : Addr} {H H' : Hp} (s : Same H H') : KeepP q c H H' := fun b o _ _ e => s b o e
theorem Pool.same {H H' : Hp} {q c : Addr} (h : Pool H q c) (s : Same H H') : Pool H' q c := ⟨h.ne, let ⟨x, y, e⟩ := h.top; ⟨x, y, s _ _ e⟩, let ⟨cs, e⟩ := h.cells; ⟨cs, s _ _ e⟩⟩
theorem Pool.qt {H : Hp} {q c b : Addr} {xs : List V} (h : Pool H q c) (e : H b = some (.tup xs)) : b ≠ q ∧ b ≠ c :=
  ⟨let ⟨_, _, z⟩ := h.top; ne_of e z (fun z => nomatch z), let ⟨_, z⟩ := h.cells; ne_of e z (fun z => nomatch z)⟩
theorem Pool.qi {H : Hp} {q c b C dx : Addr} {fs : List (Str × V)} (h : Pool H q c) (e : H b = some (.ins C dx fs)) : b ≠ q ∧ b ≠ c :=
  ⟨let ⟨_, _, z⟩ := h.top; ne_of e z (fun z => nomatch z), let ⟨_, z⟩ := h.cells; ne_of e z (fun z => nomatch z)⟩
theorem Pool.qn {H : Hp} {q c b : Addr} (h : Pool H q c) (e : H b = none) : b ≠ q ∧ b ≠ c :=
  ⟨let ⟨_, _, z⟩ := h.top; (ne_of_none z e).symm, let ⟨_, z⟩ := h.cells; (ne_of_none z e).symm⟩
theorem KeepP.tup {H H' : Hp} {q c b : Addr} {xs : List V} (k : KeepP q c H H') (h : Pool H q c) (e : H b = some (.tup xs)) : H' b = some (.tup xs) := k _ _ (h.qt e).1 (h.qt e).2 e
/-- a slice of a list of ints -/
theorem cut_ints (ns : List Int) (lo hi : Option Int) : ∃ ms : List Int, cutV (ns.map V.int) lo hi = ms.map V.int := by
  unfold cutV
  exact ⟨_, by rw [← List.map_drop, ← List.map_take]⟩
section
variable {P : Program} {w : World} {K : PySem.W.Frag} {mg : Str → Option Value} {base : Heap}
abbrev sPool : Stmt := topS 32
abbrev nPool : List Str := ["_law_script", "_law_seed", "_law_cell"]
theorem sc_pool : FnScope nPool ["_law_script"] (defScope sPool) := ⟨rfl, rfl, rfl, by decide +kernel, rfl, by decide +kernel, by decide +kernel⟩
def spPool (K : PySem.W.Frag) : Sp := fun vs H Q _ => ∃ (a : Addr) (ns : List Int), vs = [.ref a] ∧ SqL K H a (ns.map V.int) ∧ ns.length ≤ 63 ∧ ∀ H' q c, Same H H' → H q = none → H c = none → Pool H' q c → Q (.ref q) H'
theorem ok_pool {f : Addr} {fd : FuncData} (F : Fun K "_law_pool" "_law_pool" sPool f fd) (B : Bi mg) : FnOk P w K mg base CX0 1 f fd ["_law_script"] (spPool K) := by
  refine F.ok sc_pool (fun vs H Q E h => ?_) (fun cdv A outer s H vs Q E hr h => ?_)
  · obtain ⟨a, ns, rfl, _⟩ := h
    rfl
  · obtain ⟨a, ns, rfl, hS, hl, q⟩ := h
    have nd := sc_pool.nd
    refine ⟨_, pss_cons (ps_set (i := 1) nd rfl (.inl rfl) (pe_op op_add (pe_op op_add (pe_op op_mod (pe_callTy call_int1 (by rfl) B.int boot_int (pa_cons (pe_callB (cr_sum rfl) (by rfl) B.sum boot_sum (pa_cons (pe_slice sl_list (pv 0) po_none (po_some pe_int)) pa_nil)) pa_nil)) pe_int)
        (pe_callB call_len_seq (by rfl) B.len PySem.boot_len (pa_cons (pv 0) pa_nil))) pe_int))
      (pss_cons (ps_for PassesOwn.never rfl (pi_list (pe_slice sl_list (pv 0) po_none (po_some pe_int))) (pg_name (i := 2) nd rfl (Or.inl rfl))
        (pss_one (ps_set (i := 1) nd rfl (.inl rfl) (pe_op op_mod (pe_callTy call_int1 (by rfl) B.int boot_int (pa_cons (pe_op op_add (pe_op op_add (pe_op op_mul (pv 1) pe_int) (pe_op op_mod (pe_callTy call_int1 (by rfl) B.int boot_int (pa_cons (pv 2) pa_nil)) pe_int)) pe_int) pa_nil)) pe_int))))
      (pss_one (ps_ret (pe_lst (pa_cons (pv 1) (pa_cons pe_int (pa_cons (pe_lc (own := [("_law_cell", 2)]) (g := gName 2) (by rfl) nd (pi_list (pe_slice sl_list (pv 0) po_none (po_some pe_int))) (blkOk_by (N := nPool) (sc := defScope sPool) (by decide +kernel))
        (fun _ _ _ _ _ => pg_name (i := 2) nd rfl (Or.inl rfl)) (fun _ _ _ _ _ => pts_one (pt_cmpR op_ge (pe_callB call_abs (by rfl) B.abs boot_abs (pa_cons (pv 2) pa_nil)) (pe_op op_pow pe_int pe_int) (nomark _)))
        (fun _ _ _ _ _ => pe_callB call_abs (by rfl) B.abs boot_abs (pa_cons (pv 2) pa_nil))) pa_nil))))))), ?_⟩
    obtain ⟨m1, e1⟩ := cut_ints ns none (some 1)
    obtain ⟨m2, e2⟩ := cut_ints ns none (some 63)
    -- the seed
    refine ⟨.ref a, rfl, 1, rfl, a, _, rfl, hS, fun p np => ?_⟩
    have sp := same_upd (o := .lst (cutV (ns.map V.int) none (some 1))) np
    refine ⟨p, m1, rfl, SqL.of (by rw [upd_same, e1]), .inl ⟨_, rfl, _, _, rfl, rfl, (by show (0 : Int) < 1000003; decide), .ref a, rfl, a, _, rfl, .inl (sp.seq hS), _, _, rfl, rfl, _, _, rfl, rfl, ?_⟩⟩
    refine ⟨.ref a, rfl, 63, rfl, a, _, rfl, sp.seq hS, fun r nr => ?_⟩
    have sr := sp.trans (same_upd (o := .lst (cutV (ns.map V.int) none (some 63))) nr)
    have er : (upd (upd H p (.lst (cutV (ns.map V.int) none (some 1)))) r (.lst (cutV (ns.map V.int) none (some 63)))) r = some (.lst (m2.map V.int)) := by rw [upd_same, e2]
    -- the loop
    refine ⟨r, rfl, ⟨_, SqL.of er⟩, for_list (K := K) (a := r) (xs := m2.map V.int) (fun i σ H' => ∃ (z : Int) (y2 : Option V), σ = [some (.ref a), some (.int z), y2] ∧ Same H H' ∧ H' r = some (.lst (m2.map V.int))) ⟨_, _, rfl, sr, er⟩ (fun i σ H' _ z => ?_) ?_ ?_⟩
    · obtain ⟨_, _, _, _, e⟩ := z
      exact SqL.of e
    · rintro i y σ H' hy ⟨z, y2, rfl, sm, e⟩
      rw [List.getElem?_map] at hy
      cases e3 : m2[i]? with
      | none =>
        rw [e3] at hy
        cases hy
      | some k =>
        rw [e3] at hy
        have hy := Option.some.inj hy
        subst hy
        refine ⟨.int z, rfl, _, _, rfl, rfl, .inr ⟨by decide, by decide⟩, .int k, rfl, .inl ⟨k, rfl, _, _, rfl, rfl, (by show (0 : Int) < 2147483629; decide), _, _, rfl, rfl, _, _, rfl, rfl, .inl ⟨_, rfl, _, _, rfl, rfl, (by show (0 : Int) < 2147483647; decide), ?_⟩⟩⟩
        exact ⟨_, _, rfl, sm, e⟩
    · rintro σ H1 ⟨z, y2, rfl, s1, _⟩
      -- the great ones
      refine ⟨.int z, rfl, .ref a, rfl, 63, rfl, a, _, rfl, s1.seq hS, fun u nu => ?_⟩
      have s2 := s1.trans (same_upd (o := .lst (cutV (ns.map V.int) none (some 63))) nu)
      have eu : (upd H1 u (.lst (cutV (ns.map V.int) none (some 63)))) u = some (.lst (m2.map V.int)) := by rw [upd_same, e2]
      generalize upd H1 u (.lst (cutV (ns.map V.int) none (some 63))) = H2 at s2 eu
      have lm : m2.length ≤ 63 := by
        have h1 := cutV_length (ns.map V.int) none (some 63)
        rw [e2, List.length_map, List.length_map] at h1
        omega
      refine ⟨u, rfl, ⟨_, SqL.of eu⟩, fun D nD => lc_list (K := K) (a := u) (xs := m2.map V.int) (fun i H' => Same H2 H' ∧ ∃ cs : List Int, H' D = some (.lst (cs.map V.int)) ∧ cs.length ≤ i) ⟨same_upd nD, [], upd_same, Nat.le_refl _⟩ (fun i H' _ z => SqL.of (z.1 _ _ eu)) ?_ ?_⟩
      · rintro i y H' hy ⟨sm, cs, eD, lc⟩
        have hi := (List.getElem?_eq_some_iff.mp hy).1
        rw [List.length_map] at hi
        rw [List.getElem?_map] at hy
        cases e3 : m2[i]? with
        | none =>
          rw [e3] at hy
          cases hy
        | some k =>
          rw [e3] at hy
          have hy := Option.some.inj hy
          subst hy
          refine ⟨rfl, .int k, rfl, k, rfl, _, _, rfl, rfl, ⟨by decide, by decide, by decide⟩, _, _, rfl, rfl, _, rfl, ite2 (fun _ => ?_) (fun _ => ?_)⟩
          · refine ⟨.int k, rfl, k, rfl, _, eD, ?_, same_put nD sm, cs ++ [if k < 0 then -k else k], ?_, ?_⟩
            · rw [List.length_map]
              exact small1000 (by omega)
            · rw [upd_same, List.map_append]
              rfl
            · rw [List.length_append]
              exact Nat.succ_le_succ lc
          · exact ⟨sm, cs, eD, Nat.le_succ_of_le lc⟩
      · rintro H3 ⟨s3, cs, eD, _⟩
        refine ⟨(by show 3 ≤ sizeLine; decide), fun t nt => ?_⟩
        have s4 := (s2.trans s3).trans (same_upd (o := .lst [.int z, .int 0, .ref D]) nt)
        refine q _ t D s4 ((s2.trans s3).free nt) (s2.free nD) ⟨(ne_of_none eD nt).symm, ⟨z, 0, upd_same⟩, cs, ?_⟩
        rw [upd_ne (ne_of_none eD nt)]
        exact eD
/-! ### _law_draw -/
theorem bnd1 (a : Int) : -(2 ^ 64) < a % 2147483647 ∧ a % 2147483647 < 2 ^ 64 := by
  have h1 := Int.emod_nonneg a (show (2147483647 : Int) ≠ 0 by decide)
  have h2 := Int.emod_lt_of_pos a (show (0 : Int) < 2147483647 by decide)
  omega
abbrev sDraw : Stmt := topS 33
abbrev nDraw : List Str := ["_law_pool_here", "_law_many", "_law_cells", "_law_digit", "_law_mixed_here"]
theorem sc_draw : FnScope nDraw ["_law_pool_here", "_law_many"] (defScope sDraw) := ⟨rfl, rfl, rfl, by decide +kernel, rfl, by decide +kernel, by decide +kernel⟩
def spDraw : Sp := fun vs H Q _ => ∃ (q c : Addr) (m : Nat), vs = [.ref q, nV m] ∧ Pool H q c ∧ 0 < m ∧ m ≤ 1000 ∧ ∀ H' k, Pool H' q c → KeepP q c H H' → k < m → Q (nV k) H'
theorem ok_draw {f : Addr} {fd : FuncData} (F : Fun K "_law_draw" "_law_draw" sDraw f fd) (B : Bi mg) : FnOk P w K mg base CX0 1 f fd ["_law_pool_here", "_law_many"] spDraw := by
  refine F.ok sc_draw (fun vs H Q E h => ?_) (fun cdv A outer s H vs Q E hr h => ?_)
  · obtain ⟨q, c, m, rfl, _⟩ := h
    rfl
  · obtain ⟨q, c, m, rfl, ⟨ne, ⟨sd, k, eq⟩, cs, ec⟩, hm, hm2, g⟩ := h
    have nd := sc_draw.nd
    refine ⟨_, pss_cons (ps_asg (pe_op op_add (pe_ix ix_list (pv 0) pe_int (fun _ _ => rfl)) pe_int) (pg_sub (pv 0) pe_int set_list))
      (pss_cons (ps_set (i := 2) nd rfl (.inl rfl) (pe_ix ix_list (pv 0) pe_int (fun _ _ => rfl)))
      (pss_cons (ps_if (pt_cmpR op_gt (pe_callB call_len_seq (by rfl) B.len PySem.boot_len (pa_cons (pv 2) pa_nil)) pe_int (nomark _))
        (pss_cons (ps_set (i := 3) nd rfl (.inl rfl) (pe_op op_mod (pe_callTy call_int1 (by rfl) B.int boot_int (pa_cons (pe_ix ix_list (pv 2) pe_int (fun _ _ => rfl)) pa_nil)) (pv 1)))
        (pss_cons (ps_asg (pe_op op_fdiv (pe_callTy call_int1 (by rfl) B.int boot_int (pa_cons (pe_ix ix_list (pv 2) pe_int (fun _ _ => rfl)) pa_nil)) (pv 1)) (pg_sub (pv 2) pe_int set_list))
        (pss_cons (ps_if (pt_cmpR op_eq (pe_ix ix_list (pv 2) pe_int (fun _ _ => rfl)) pe_int (nomark _)) (pss_one (ps_expr (pe_bm PySem.F.plainAttrs_list PySem.F.slot_list_pop PySem.F.type_list_pop mt_popAt (pv 2) (pa_cons pe_int pa_nil)))) pss_nil)
        (pss_one (ps_ret (pv 3)))))) pss_nil)
      (pss_cons (ps_set (i := 4) nd rfl (.inl rfl) (pe_op op_mod (pe_callTy call_int1 (by rfl) B.int boot_int (pa_cons (pe_op op_mul (pe_op op_add (pe_ix ix_list (pv 0) pe_int (fun _ _ => rfl)) (pe_op op_mul pe_int (pe_ix ix_list (pv 0) pe_int (fun _ _ => rfl)))) pe_int) pa_nil)) pe_int))
      (pss_cons (ps_set (i := 4) nd rfl (.inl rfl) (pe_op op_mod (pe_callTy call_int1 (by rfl) B.int boot_int (pa_cons (pe_op op_mul (pv 4) (pe_op op_add (pe_op op_fdiv (pv 4) pe_int) pe_int)) pa_nil)) pe_int))
      (pss_cons (ps_set (i := 4) nd rfl (.inl rfl) (pe_op op_mod (pe_callTy call_int1 (by rfl) B.int boot_int (pa_cons (pe_op op_mul (pv 4) (pe_op op_add (pe_op op_fdiv (pv 4) pe_int) pe_int)) pa_nil)) pe_int))
      (pss_one (ps_ret (pe_op op_mod (pe_callTy call_int1 (by rfl) B.int boot_int (pa_cons (pe_op op_fdiv (pv 4) pe_int) pa_nil)) (pv 1))))))))), ?_⟩
    have at1 : atI [V.int sd, V.int k, V.ref c] (1 : Int) = some (.int k) := atI_nat (j := 1) rfl
    -- pool[1] = pool[1] + 1
    refine ⟨.ref q, rfl, q, _, 1, .int k, rfl, rfl, SqL.of eq, at1, _, _, rfl, rfl, .ref q, rfl, q, _, 1, 1, rfl, rfl, eq, rfl, ?_⟩
    have eq1 : (upd H q (.lst ([V.int sd, V.int k, V.ref c].set 1 (.int (k + 1))))) q = some (.lst [.int sd, .int (k + 1), .ref c]) := upd_same
    have ec1 : (upd H q (.lst ([V.int sd, V.int k, V.ref c].set 1 (.int (k + 1))))) c = some (.lst (cs.map V.int)) := by
      rw [upd_ne ne.symm]
      exact ec
    have k1 : KeepP q c H (upd H q (.lst ([V.int sd, V.int k, V.ref c].set 1 (.int (k + 1))))) := fun b o n1 n2 e => by
      rw [upd_ne n1]
      exact e
    generalize upd H q (.lst ([V.int sd, V.int k, V.ref c].set 1 (.int (k + 1)))) = H1 at eq1 ec1 k1
    refine ⟨.ref q, rfl, q, _, 2, .ref c, rfl, rfl, SqL.of eq1, atI_nat (j := 2) rfl, ?_⟩
    refine ⟨.ref c, rfl, c, _, rfl, .inl (SqL.of ec1), _, _, rfl, rfl, _, rfl, ite2 (fun e => ?_) (fun e => ?_)⟩
    · -- a great number is left
      cases cs with
      | nil => exact absurd (of_decide_eq_true e) (by decide)
      | cons z r =>
        have mp : (0 : Int) < (m : Int) := by omega
        have ek : ((z % (m : Int)).toNat : Int) = z % (m : Int) := Int.toNat_of_nonneg (Int.emod_nonneg _ (by omega))
        have lk : (z % (m : Int)).toNat < m := by
          have := Int.emod_lt_of_pos z mp
          omega
        refine ⟨.ref c, rfl, c, _, 0, .int z, rfl, rfl, SqL.of ec1, atI_nat (j := 0) rfl, .inl ⟨z, rfl, nV m, rfl, z, m, rfl, rfl, mp, ?_⟩⟩
        refine ⟨.ref c, rfl, c, _, 0, .int z, rfl, rfl, SqL.of ec1, atI_nat (j := 0) rfl, .inl ⟨z, rfl, nV m, rfl, z, m, rfl, rfl, ⟨mp, by omega⟩, .ref c, rfl, c, _, 0, 0, rfl, rfl, ec1, ixN_nat (j := 0) (by rw [List.length_map, List.length_cons]; omega), ?_⟩⟩
        have ec2 : (upd H1 c (.lst (((z :: r).map V.int).set 0 (.int (z / (m : Int)))))) c = some (.lst ((z / (m : Int) :: r).map V.int)) := upd_same
        have k2 : KeepP q c H (upd H1 c (.lst (((z :: r).map V.int).set 0 (.int (z / (m : Int)))))) := fun b o n1 n2 e => by
          rw [upd_ne n2]
          exact k1 b o n1 n2 e
        have eq2 : (upd H1 c (.lst (((z :: r).map V.int).set 0 (.int (z / (m : Int)))))) q = some (.lst [.int sd, .int (k + 1), .ref c]) := by
          rw [upd_ne ne]
          exact eq1
        generalize upd H1 c (.lst (((z :: r).map V.int).set 0 (.int (z / (m : Int))))) = H2 at ec2 k2 eq2
        have fin : ∀ {H3 : Hp} {cs : List Int}, H3 q = some (.lst [.int sd, .int (k + 1), .ref c]) → H3 c = some (.lst (cs.map V.int)) → KeepP q c H H3 → Q (.int (z % (m : Int))) H3 := fun {H3 cs} a1 a2 a3 => by
          have := g H3 _ ⟨ne, ⟨sd, k + 1, a1⟩, cs, a2⟩ a3 lk
          rw [show nV (z % (m : Int)).toNat = V.int (z % (m : Int)) from congrArg V.int ek] at this
          exact this
        refine ⟨.ref c, rfl, c, _, 0, .int (z / (m : Int)), rfl, rfl, SqL.of ec2, atI_nat (j := 0) rfl, rfl, _, rfl, ite2 (fun _ => ?_) (fun _ => ?_)⟩
        · refine ⟨.ref c, rfl, .inl ⟨rfl, _, SqL.of ec2⟩, c, _, 0, 0, .int (z / (m : Int)), rfl, rfl, ec2, by decide, by decide, ?_, rfl, ?_⟩
          · exact (ixN_seq (ixN_nat (n := ((z / (m : Int) :: r).map V.int).length) (j := 0) (by rw [List.length_map, List.length_cons]; omega))).1
          · refine ⟨_, rfl, fin (by rw [upd_ne ne]; exact eq2) (cs := r) upd_same fun b o n1 n2 e => by rw [upd_ne n2]; exact k2 b o n1 n2 e⟩
        · exact ⟨_, rfl, fin eq2 ec2 k2⟩
    · -- mixed numbers
      refine ⟨.ref q, rfl, q, _, 0, .int sd, rfl, rfl, SqL.of eq1, atI_nat (j := 0) rfl, .ref q, rfl, q, _, 1, .int (k + 1), rfl, rfl, SqL.of eq1, atI_nat (j := 1) rfl, _, _, rfl, rfl, .inl ⟨by decide, by decide⟩, _, _, rfl, rfl, _, _, rfl, rfl, .inr ⟨by decide, by decide⟩,
        .inl ⟨_, rfl, _, _, rfl, rfl, (by show (0 : Int) < 2147483647; decide), ?_⟩⟩
      refine ⟨_, rfl, _, rfl, _, _, rfl, rfl, ⟨by decide, by decide⟩, _, _, rfl, rfl, _, _, rfl, rfl, .inl (bnd1 _), .inl ⟨_, rfl, _, _, rfl, rfl, (by show (0 : Int) < 2147483647; decide), ?_⟩⟩
      refine ⟨_, rfl, _, rfl, _, _, rfl, rfl, ⟨by decide, by decide⟩, _, _, rfl, rfl, _, _, rfl, rfl, .inl (bnd1 _), .inl ⟨_, rfl, _, _, rfl, rfl, (by show (0 : Int) < 2147483399; decide), ?_⟩⟩
      refine ⟨_, rfl, _, _, rfl, rfl, ⟨by decide, by decide⟩, .inl ⟨_, rfl, nV m, rfl, _, m, rfl, rfl, (by show (0 : Int) < (m : Int); omega), ?_⟩⟩
      have fin : ∀ z : Int, Q (.int (z % (m : Int))) H1 := fun z => by
        have ek : ((z % (m : Int)).toNat : Int) = z % (m : Int) := Int.toNat_of_nonneg (Int.emod_nonneg _ (by omega))
        have lk : (z % (m : Int)).toNat < m := by
          have := Int.emod_lt_of_pos z (show (0 : Int) < (m : Int) by omega)
          omega
        have := g H1 _ ⟨ne, ⟨sd, k + 1, eq1⟩, cs, ec1⟩ k1 lk
        rw [show nV (z % (m : Int)).toNat = V.int (z % (m : Int)) from congrArg V.int ek] at this
        exact this
      exact fin _
end
end L2.Ac
namespace L2.Ac
open PySem PySem.Spec PyProof.Rows
open _root_.Ac
/-! ### lists of numbers -/
theorem erase_map {α β : Type} (f : α → β) : ∀ (l : List α) (k : Nat), (l.map f).eraseIdx k = (l.eraseIdx k).map f
  | [], k => by simp
  | a :: r, 0 => rfl
  | a :: r, k + 1 => by
    show f a :: (r.map f).eraseIdx k = f a :: (r.eraseIdx k).map f
    rw [erase_map f r k]
theorem erase_perm {α : Type} : ∀ {l : List α} {k : Nat} {x : α}, l[k]? = some x → (x :: l.eraseIdx k).Perm l
  | [], k, x, h => by simp at h
  | a :: r, 0, x, h => by
    have e : a = x := Option.some.inj h
    subst e
    exact .refl _
  | a :: r, k + 1, x, h => ((List.Perm.swap a x _).trans ((erase_perm (l := r) (k := k) h).cons a))
theorem move_perm {α : Type} {ms l : List α} {k : Nat} {x : α} (h : l[k]? = some x) : ((ms ++ [x]) ++ l.eraseIdx k).Perm (ms ++ l) := by
  rw [List.append_assoc]
  exact (erase_perm h).append_left ms
theorem nat_at {xs : List Nat} {i : Nat} {y : V} (h : (xs.map nV)[i]? = some y) : ∃ k, xs[i]? = some k ∧ y = nV k := by
  rw [List.getElem?_map] at h
  cases e : xs[i]? with
  | none =>
    rw [e] at h
    cases h
  | some k =>
    rw [e] at h
    exact ⟨k, rfl, (Option.some.inj h).symm⟩
theorem at_nat {xs : List Nat} {i k : Nat} (h : xs[i]? = some k) : (xs.map nV)[i]? = some (nV k) := by
  rw [List.getElem?_map, h]
  rfl
/-- a list of links -/
def LstT (H : Hp) (p : Addr) (ls : List L3) : Prop := ∃ as : List Addr, H p = some (.lst (as.map V.ref)) ∧ Tris H as ls
section
variable {P : Program} {w : World} {K : PySem.W.Frag} {mg : Str → Option Value} {base : Heap}
/-! ### _law_mixed -/
abbrev sMixed : Stmt := topS 34
abbrev nMixed : List Str := ["_law_pool_here", "_law_things", "_law_left", "_law_made", "_law_k"]
theorem sc_mixed : FnScope nMixed ["_law_pool_here", "_law_things"] (defScope sMixed) := ⟨rfl, rfl, rfl, by decide +kernel, rfl, by decide +kernel, by decide +kernel⟩
def spMixed : Sp := fun vs H Q _ => ∃ (q c a : Addr) (xs : List Nat), vs = [.ref q, .ref a] ∧ Pool H q c ∧ H a = some (.lst (xs.map nV)) ∧ xs.length ≤ 100 ∧
  ∀ (H' : Hp) (p : Addr) (ys : List Nat), Pool H' q c → KeepP q c H H' → H p = none → H' p = some (.lst (ys.map nV)) → ys.Perm xs → Q (.ref p) H'
theorem ok_mixed {f f1 : Addr} {fd fd1 : FuncData} (F : Fun K "_law_mixed" "_law_mixed" sMixed f fd) (B : Bi mg) (C1 : Cal P w K mg base 1 "_law_draw" f1 fd1 ["_law_pool_here", "_law_many"] spDraw) : FnOk P w K mg base CX0 2 f fd ["_law_pool_here", "_law_things"] spMixed := by
  refine F.ok sc_mixed (fun vs H Q E h => ?_) (fun cdv A outer s H vs Q E hr h => ?_)
  · obtain ⟨q, c, a, xs, rfl, _⟩ := h
    rfl
  · obtain ⟨q, c, a, xs, rfl, hP, ha, hl, g⟩ := h
    have nd := sc_mixed.nd
    refine ⟨_, pss_cons (ps_set (i := 2) nd rfl (.inl rfl) (pe_callTy call_list_of (by rfl) B.list boot_list (pa_cons (pv 1) pa_nil)))
      (pss_cons (ps_set (i := 3) nd rfl (.inl rfl) (pe_lst pa_nil))
      (pss_cons (ps_for PassesOwn.never rfl (pi_range1 (by rfl) B.range (pa_cons (pe_callB call_len_seq (by rfl) B.len PySem.boot_len (pa_cons (pv 1) pa_nil)) pa_nil)) (pg_name (i := 4) nd rfl (Or.inl rfl))
        (pss_one (ps_expr (pe_bm PySem.F.plainAttrs_list PySem.F.slot_list_append PySem.F.type_list_append mt_append (pv 3) (pa_cons (pe_bm PySem.F.plainAttrs_list PySem.F.slot_list_pop PySem.F.type_list_pop mt_popAt (pv 2)
          (pa_cons (pcal C1 hr (pa_cons (pv 0) (pa_cons (pe_callB call_len_seq (by rfl) B.len PySem.boot_len (pa_cons (pv 2) pa_nil)) pa_nil))) pa_nil)) pa_nil)))))
      (pss_one (ps_ret (pv 3))))), ?_⟩
    refine ⟨.ref a, rfl, a, _, rfl, .inl (SqL.of ha), fun L nL => ?_⟩
    have s1 := same_upd (o := .lst (xs.map nV)) nL
    refine ⟨Nat.zero_le _, fun D nD => ?_⟩
    have s2 := same_upd (o := .lst []) nD
    have eL := s2 _ _ (upd_same (H := H) (a := L) (o := .lst (xs.map nV)))
    have nDL : D ≠ L := (ne_of_none upd_same nD).symm
    have s12 := s1.trans s2
    have eD : (upd (upd H L (.lst (xs.map nV))) D (.lst [])) D = some (.lst []) := upd_same
    generalize upd (upd H L (.lst (xs.map nV))) D (.lst []) = H1 at s2 eL s12 eD
    have nLq := hP.qn nL
    have nDq := hP.qn (s1.free nD)
    have P1 := hP.same s12
    refine ⟨.ref a, rfl, a, _, rfl, .inl (SqL.of (s12 _ _ ha)), _, rfl, by rw [List.length_map]; omega, by rw [List.length_map]; omega, for_range (lo := 0) (n := (((xs.map nV).length : Nat) : Int).toNat) (fun i σ H' => ∃ (y4 : Option V) (ls ms : List Nat), σ = [some (.ref q), some (.ref a), some (.ref L), some (.ref D), y4] ∧ Pool H' q c ∧ KeepP q c H H' ∧
        H' L = some (.lst (ls.map nV)) ∧ H' D = some (.lst (ms.map nV)) ∧ (ms ++ ls).Perm xs ∧ ls.length + i = xs.length) ⟨none, xs, [], rfl, P1, .of s12, eL, eD, .refl _, rfl⟩ ?_ ?_⟩
    · rintro i σ H' hi ⟨y4, ls, ms, rfl, hP', kp, eL', eD', hp, hn⟩
      rw [List.length_map] at hi
      have hlp : 0 < ls.length := by omega
      refine ⟨.ref D, rfl, .inl ⟨rfl, _, SqL.of eD'⟩, .ref L, rfl, .inl ⟨rfl, _, SqL.of eL'⟩, .ref q, rfl, .ref L, rfl, L, _, rfl, .inl (SqL.of eL'), q, c, ls.length, by rw [List.length_map]; rfl, hP', hlp, by omega, fun H2 k P2 k2 lk => ?_⟩
      have eL2 := k2 _ _ nLq.1 nLq.2 eL'
      have eD2 := k2 _ _ nDq.1 nDq.2 eD'
      have hk : ls[k]? = some ls[k] := List.getElem?_eq_getElem lk
      refine ⟨L, _, k, k, nV ls[k], rfl, rfl, eL2, by omega, by omega, ?_, at_nat hk, ?_⟩
      · exact (ixN_seq (ixN_nat (by rw [List.length_map]; exact lk))).1
      · have eD3 : (upd H2 L (.lst ((ls.map nV).eraseIdx k))) D = some (.lst (ms.map nV)) := by
          rw [upd_ne nDL]
          exact eD2
        refine ⟨D, _, nV ls[k], rfl, rfl, eD3, ?_, _, ls.eraseIdx k, ms ++ [ls[k]], rfl, ?_, ?_, ?_, ?_, (move_perm hk).trans hp, ?_⟩
        · rw [List.length_map]
          have := hp.length_eq
          rw [List.length_append] at this
          exact small1000 (by omega)
        · obtain ⟨z1, ⟨z2, z3, z4⟩, z5, z6⟩ := P2
          exact ⟨z1, ⟨z2, z3, by rw [upd_ne nDq.1.symm, upd_ne nLq.1.symm]; exact z4⟩, z5, by rw [upd_ne nDq.2.symm, upd_ne nLq.2.symm]; exact z6⟩
        · intro b o n1 n2 e
          rw [upd_ne (ne_of_none e (s1.free nD)), upd_ne (ne_of_none e nL)]
          exact k2 b o n1 n2 (kp b o n1 n2 e)
        · rw [upd_ne nDL.symm, upd_same, erase_map]
        · rw [upd_same, List.map_append]
          rfl
        · rw [List.length_eraseIdx, if_pos lk]
          omega
    · rintro σ H' ⟨y4, ls, ms, rfl, hP', kp, eL', eD', hp, hn⟩
      rw [List.length_map] at hn
      have hl0 : ls = [] := List.eq_nil_of_length_eq_zero (by omega)
      subst hl0
      rw [List.append_nil] at hp
      exact ⟨.ref D, rfl, g H' D ms hP' kp (s1.free nD) eD' hp⟩
end
end L2.Ac
namespace L2.Ac
open PySem PySem.Spec PyProof.Rows
open _root_.Ac
theorem Tris.keep {H H' : Hp} {q c : Addr} {as : List Addr} {ls : List L3} (h : Tris H as ls) (hP : Pool H q c) (k : KeepP q c H H') : Tris H' as ls := h.mono fun _ _ z => k.tup hP z
section
variable {P : Program} {w : World} {K : PySem.W.Frag} {mg : Str → Option Value} {base : Heap}
/-! ### _law_some_links -/
abbrev sSome : Stmt := topS 35
abbrev nSome : List Str := ["_law_pool_here", "_law_places", "_law_many", "_law_far", "_law_size", "_law_found", "_law_k", "_law_one", "_law_other", "_law_rounds"]
theorem sc_some : FnScope nSome ["_law_pool_here", "_law_places", "_law_many", "_law_far"] (defScope sSome) := ⟨rfl, rfl, rfl, by decide +kernel, rfl, by decide +kernel, by decide +kernel⟩
/-- a link drawn over the places ps -/
structure Drawn (ps : List Nat) (l : L3) : Prop where
  one : l.1 < ps.length
  other : l.2.1 < ps.length
  rounds : l.2.2 ≤ 6
  up : l.2.2 = 0 → ps.getD l.1 0 < ps.getD l.2.1 0
def spSome : Sp := fun vs H Q _ => ∃ (q c a : Addr) (ps : List Nat) (m f : Nat), vs = [.ref q, .ref a, nV m, nV f] ∧ Pool H q c ∧ H a = some (.lst (ps.map nV)) ∧ a ≠ q ∧ a ≠ c ∧ 0 < ps.length ∧ ps.length ≤ 12 ∧ m ≤ 100 ∧ f ≤ 6 ∧
  ∀ (H' : Hp) (p : Addr) (ls : List L3), Pool H' q c → KeepP q c H H' → H p = none → LstT H' p ls → ls.Nodup → ls.length ≤ m → (∀ l, l ∈ ls → Drawn ps l) → Q (.ref p) H'
theorem ok_some {f f1 : Addr} {fd fd1 : FuncData} (F : Fun K "_law_some_links" "_law_some_links" sSome f fd) (B : Bi mg) (C1 : Cal P w K mg base 1 "_law_draw" f1 fd1 ["_law_pool_here", "_law_many"] spDraw) :
    FnOk P w K mg base CX0 2 f fd ["_law_pool_here", "_law_places", "_law_many", "_law_far"] spSome := by
  refine F.ok sc_some (fun vs H Q E h => ?_) (fun cdv A outer s H vs Q E hr h => ?_)
  · obtain ⟨q, c, a, ps, m, f, rfl, _⟩ := h
    rfl
  · obtain ⟨q, c, a, ps, m, fa, rfl, hP, ha, aq, ac, hp0, hp12, hm, hf, g⟩ := h
    have nd := sc_some.nd
    refine ⟨_, pss_cons (ps_set (i := 4) nd rfl (.inl rfl) (pe_callB call_len_seq (by rfl) B.len PySem.boot_len (pa_cons (pv 1) pa_nil)))
      (pss_cons (ps_set (i := 5) nd rfl (.inl rfl) (pe_lst pa_nil))
      (pss_cons (ps_for PassesOwn.never rfl (pi_range1 (by rfl) B.range (pa_cons (pv 2) pa_nil)) (pg_name (i := 6) nd rfl (Or.inl rfl))
        (pss_cons (ps_set (i := 7) nd rfl (.inl rfl) (pcal C1 hr (pa_cons (pv 0) (pa_cons (pv 4) pa_nil))))
        (pss_cons (ps_set (i := 8) nd rfl (.inl rfl) (pcal C1 hr (pa_cons (pv 0) (pa_cons (pv 4) pa_nil))))
        (pss_cons (ps_set (i := 9) nd rfl (.inl rfl) (pcal C1 hr (pa_cons (pv 0) (pa_cons (pe_op op_add (pv 3) pe_int) pa_nil))))
        (C8.pss_cut (ps_if (pt_cmpR op_ge (pe_ix ix_list (pv 1) (pv 7) (fun _ _ => rfl)) (pe_ix ix_list (pv 1) (pv 8) (fun _ _ => rfl)) (nomark _)) (pss_one (ps_set (i := 9) nd rfl (.inl rfl) (pe_callB (call_max2 rfl) (by rfl) B.max boot_max (pa_cons pe_int (pa_cons (pv 9) pa_nil))))) pss_nil)
        (pss_one (ps_if (pt_cmpR (op_notTri (hu65 hr)) (pe_tup (pa_cons (pv 7) (pa_cons (pv 8) (pa_cons (pv 9) pa_nil)))) (pv 5) (by rfl))
          (pss_one (ps_expr (pe_bm PySem.F.plainAttrs_list PySem.F.slot_list_append PySem.F.type_list_append mt_append (pv 5) (pa_cons (pe_tup (pa_cons (pv 7) (pa_cons (pv 8) (pa_cons (pv 9) pa_nil)))) pa_nil)))) pss_nil)))))))
      (pss_one (ps_ret (pv 5))))), ?_⟩
    refine ⟨.ref a, rfl, a, _, rfl, .inl (SqL.of ha), ?_⟩
    rw [List.length_map]
    refine ⟨Nat.zero_le _, fun D nD => ?_⟩
    have s1 := same_upd (o := .lst []) nD
    have nDq := hP.qn nD
    refine ⟨nV m, rfl, m, rfl, by omega, by omega, for_range (lo := 0) (n := ((m : Int)).toNat) (fun i σ H' => ∃ (y6 y7 y8 y9 : Option V) (as : List Addr) (ls : List L3), σ = [some (.ref q), some (.ref a), some (nV m), some (nV fa), some (nV ps.length), some (.ref D), y6, y7, y8, y9] ∧ Pool H' q c ∧ KeepP q c H H' ∧
        H' D = some (.lst (as.map V.ref)) ∧ Tris H' as ls ∧ ls.Nodup ∧ ls.length ≤ i ∧ ∀ l, l ∈ ls → Drawn ps l)
      ⟨none, none, none, none, [], [], rfl, hP.same s1, .of s1, upd_same, Each.nil, List.nodup_nil, Nat.le_refl _, fun l hl => by simp at hl⟩ ?_ ?_⟩
    · rintro i σ H1 hi ⟨y6, y7, y8, y9, as, ls, rfl, P1, k1, eD, T, hnd, hl, hd⟩
      refine ⟨.ref q, rfl, nV ps.length, rfl, q, c, ps.length, rfl, P1, hp0, by omega, fun H2 d1 P2 k2 l1 => ?_⟩
      refine ⟨.ref q, rfl, nV ps.length, rfl, q, c, ps.length, rfl, P2, hp0, by omega, fun H3 d2 P3 k3 l2 => ?_⟩
      refine ⟨.ref q, rfl, nV fa, rfl, _, _, rfl, rfl, q, c, fa + 1, rfl, P3, by omega, by omega, fun H4 d3 P4 k4 l3 => ?_⟩
      have k13 := (k2.trans k3).trans k4
      have k14 := k1.trans k13
      have ha4 := k14 _ _ aq ac ha
      have eD4 := k13 _ _ nDq.1 nDq.2 eD
      have T4 := Tris.keep (Tris.keep (Tris.keep T P1 k2) P2 k3) P3 k4
      have a1 : ps[d1]? = some ps[d1] := List.getElem?_eq_getElem l1
      have a2 : ps[d2]? = some ps[d2] := List.getElem?_eq_getElem l2
      have g1 : ps.getD d1 0 = ps[d1] := by rw [List.getD_eq_getElem?_getD, a1]; rfl
      have g2 : ps.getD d2 0 = ps[d2] := by rw [List.getD_eq_getElem?_getD, a2]; rfl
      refine ⟨fun σ' H' => H' = H4 ∧ ∃ r : Nat, σ' = [some (.ref q), some (.ref a), some (nV m), some (nV fa), some (nV ps.length), some (.ref D), some (.int (0 + (i : Nat))), some (nV d1), some (nV d2), some (nV r)] ∧ Drawn ps (d1, d2, r), ?_, ?_⟩
      · refine ⟨.ref a, rfl, nV d1, rfl, a, _, _, nV ps[d1], rfl, rfl, SqL.of ha4, atI_nat (at_nat a1), .ref a, rfl, nV d2, rfl, a, _, _, nV ps[d2], rfl, rfl, SqL.of ha4, atI_nat (at_nat a2), _, _, rfl, rfl, _, rfl, ite2 (fun e => ?_) (fun e => ?_)⟩
        · refine ⟨nV d3, rfl, 1, d3, rfl, ?_⟩
          by_cases c3 : d3 > 1
          · rw [if_pos (show ((d3 : Int) > 1) by omega)]
            exact ⟨rfl, d3, rfl, l1, l2, by show d3 ≤ 6; omega, fun z => by have : d3 = 0 := z; omega⟩
          · rw [if_neg (show ¬ ((d3 : Int) > 1) by omega)]
            exact ⟨rfl, 1, rfl, l1, l2, by show 1 ≤ 6; omega, fun z => by cases z⟩
        · refine ⟨rfl, d3, rfl, l1, l2, by show d3 ≤ 6; omega, fun _ => ?_⟩
          show ps.getD d1 0 < ps.getD d2 0
          rw [g1, g2]
          have e : ¬ ((ps[d2] : Int) ≤ (ps[d1] : Int)) := fun z => e (decide_eq_true z)
          omega
      · rintro σ' H' ⟨rfl, r, rfl, hD⟩
        refine ⟨nV d1, rfl, nV d2, rfl, nV r, rfl, (by show 3 ≤ sizeLine; decide), fun t nt => ?_⟩
        have st := same_upd (o := .tup [nV d1, nV d2, nV r]) nt
        refine ⟨.ref D, rfl, t, D, (d1, d2, r), as, ls, rfl, rfl, upd_same, .inl (SqL.of (st _ _ eD4)), T4.same st, _, rfl, ?_⟩
        have P5 := P4.same st
        have k5 : KeepP q c H (upd H' t (.tup [nV d1, nV d2, nV r])) := k14.trans (.of st)
        have eD5 := st _ _ eD4
        have T5 := T4.same st
        generalize upd H' t (.tup [nV d1, nV d2, nV r]) = H5 at P5 k5 eD5 T5
        by_cases cm : (d1, d2, r) ∈ ls
        · rw [decide_eq_true cm]
          exact ⟨_, _, _, _, as, ls, rfl, P5, k5, eD5, T5, hnd, by omega, hd⟩
        · rw [decide_eq_false cm]
          refine ⟨.ref D, rfl, .inl ⟨rfl, _, SqL.of eD5⟩, nV d1, rfl, nV d2, rfl, nV r, rfl, (by show 3 ≤ sizeLine; decide), fun u nu => ?_⟩
          have su := same_upd (o := .tup [nV d1, nV d2, nV r]) nu
          have eDu := su _ _ eD5
          refine ⟨D, _, .ref u, rfl, rfl, eDu, ?_, _, _, _, _, as ++ [u], ls ++ [(d1, d2, r)], rfl, ?_, ?_, ?_, ?_, ?_, ?_, ?_⟩
          · rw [List.length_map, T.len]
            exact small1000 (by omega)
          · obtain ⟨z1, ⟨z2, z3, z4⟩, z5, z6⟩ := P5.same su
            exact ⟨z1, ⟨z2, z3, by rw [upd_ne nDq.1.symm]; exact z4⟩, z5, by rw [upd_ne nDq.2.symm]; exact z6⟩
          · intro b o n1 n2 e
            rw [upd_ne (ne_of_none e nD)]
            exact su _ _ (k5 b o n1 n2 e)
          · rw [upd_same, List.map_append]
            rfl
          · refine (T5.mono fun b l z => ?_).snoc ?_
            · have z' := su _ _ z
              show (upd _ D _) b = _
              rw [upd_ne (ne_of z' eDu (fun z => nomatch z))]
              exact z'
            · show (upd _ D _) u = _
              rw [upd_ne (ne_of_none eD5 nu).symm, upd_same]
              rfl
          · rw [List.nodup_append]
            refine ⟨hnd, by simp, fun b hb z hz e => ?_⟩
            rw [List.mem_singleton.mp hz] at e
            exact cm (e ▸ hb)
          · rw [List.length_append]
            exact Nat.succ_le_succ hl
          · intro l hl'
            rcases List.mem_append.mp hl' with hl' | hl'
            · exact hd l hl'
            · rw [List.mem_singleton.mp hl']
              exact hD
    · rintro σ H' ⟨y6, y7, y8, y9, as, ls, rfl, P1, k1, eD, T, hnd, hl, hd⟩
      exact ⟨.ref D, rfl, g H' D ls P1 k1 nD ⟨as, eD, T⟩ hnd (by omega) hd⟩
end
end L2.Ac
namespace L2.Ac
open PySem PySem.Spec PyProof.Rows
open _root_.Ac
/-! ### the ring's links -/
def ringL (rw : List Nat) (m : Nat) : List L3 := (List.range m).map fun k => (rw.getD k 0, rw.getD (k + 1) 0, 0)
theorem ringL_succ (rw : List Nat) (m : Nat) : ringL rw (m + 1) = ringL rw m ++ [(rw.getD m 0, rw.getD (m + 1) 0, 0)] := by
  unfold ringL
  rw [List.range_succ, List.map_append]
  rfl
theorem mem_ringL {rw : List Nat} {m : Nat} {l : L3} (h : l ∈ ringL rw m) : ∃ k, k < m ∧ l = (rw.getD k 0, rw.getD (k + 1) 0, 0) := by
  obtain ⟨k, h1, h2⟩ := List.mem_map.mp h
  exact ⟨k, List.mem_range.mp h1, h2.symm⟩
/-- a row of the steps by their places -/
structure RowOf (ps rw : List Nat) : Prop where
  len : rw.length = ps.length
  at_ : ∀ k, k < ps.length → ∃ j, rw[k]? = some j ∧ ps[j]? = some k
theorem RowOf.get {ps rw : List Nat} (R : RowOf ps rw) {k : Nat} (h : k < ps.length) : rw[k]? = some (rw.getD k 0) ∧ rw.getD k 0 < ps.length ∧ ps.getD (rw.getD k 0) 0 = k := by
  obtain ⟨j, h1, h2⟩ := R.at_ k h
  have e : rw.getD k 0 = j := by rw [List.getD_eq_getElem?_getD, h1]; rfl
  rw [e]
  refine ⟨h1, (List.getElem?_eq_some_iff.mp h2).1, ?_⟩
  rw [List.getD_eq_getElem?_getD, h2]
  rfl
theorem RowOf.inj {ps rw : List Nat} (R : RowOf ps rw) {k m : Nat} (h1 : k < ps.length) (h2 : m < ps.length) (e : rw.getD k 0 = rw.getD m 0) : k = m := by
  have a := (R.get h1).2.2
  have b := (R.get h2).2.2
  rw [e, b] at a
  exact a.symm
theorem ring_nodup {ps rw : List Nat} (R : RowOf ps rw) : ∀ m, m ≤ ps.length → (ringL rw m).Nodup
  | 0, _ => List.nodup_nil
  | m + 1, h => by
    rw [ringL_succ, List.nodup_append]
    refine ⟨ring_nodup R m (by omega), by simp, fun a ha b hb e => ?_⟩
    obtain ⟨k, hk, rfl⟩ := mem_ringL ha
    rw [List.mem_singleton.mp hb] at e
    injection e with e1 _
    have := R.inj (by omega) (by omega) e1
    omega
/-- the whole ring -/
theorem ring_good {ps rw : List Nat} (R : RowOf ps rw) {m d : Nat} (hm : ps.length = m + 1) (hd : d < 2) :
    (ringL rw m ++ [(rw.getD m 0, rw.getD 0 0, 1 + d)]).Nodup ∧ ∀ l, l ∈ ringL rw m ++ [(rw.getD m 0, rw.getD 0 0, 1 + d)] → Drawn ps l := by
  refine ⟨?_, fun l hl => ?_⟩
  · rw [List.nodup_append]
    refine ⟨ring_nodup R m (by omega), by simp, fun a ha b hb e => ?_⟩
    obtain ⟨k, hk, rfl⟩ := mem_ringL ha
    rw [List.mem_singleton.mp hb] at e
    injection e with _ e2
    injection e2 with _ e3
    omega
  · rcases List.mem_append.mp hl with hl | hl
    · obtain ⟨k, hk, rfl⟩ := mem_ringL hl
      obtain ⟨_, a2, a3⟩ := R.get (k := k) (by omega)
      obtain ⟨_, b2, b3⟩ := R.get (k := k + 1) (by omega)
      refine ⟨a2, b2, Nat.zero_le _, fun _ => ?_⟩
      show ps.getD (rw.getD k 0) 0 < ps.getD (rw.getD (k + 1) 0) 0
      omega
    · rw [List.mem_singleton.mp hl]
      obtain ⟨_, a2, a3⟩ := R.get (k := m) (by omega)
      obtain ⟨_, b2, b3⟩ := R.get (k := 0) (by omega)
      refine ⟨a2, b2, by show 1 + d ≤ 6; omega, fun z => ?_⟩
      have z : 1 + d = 0 := z
      omega
theorem atI_back {xs : List V} {v : V} {m : Nat} (hm : xs.length = m + 1) (h : xs[m]? = some v) : atI xs (-1) = some v := by
  unfold atI ixN
  rw [if_neg (by omega), if_pos (by omega)]
  show xs[((-1 : Int) + (xs.length : Nat)).toNat]? = some v
  rw [show ((-1 : Int) + (xs.length : Nat)).toNat = m by omega]
  exact h
section
variable {P : Program} {w : World} {K : PySem.W.Frag} {mg : Str → Option Value} {base : Heap}
abbrev sRing : Stmt := topS 36
abbrev nRing : List Str := ["_law_pool_here", "_law_places", "_law_k", "_law_row", "_law_found"]
theorem sc_ring : FnScope nRing ["_law_pool_here", "_law_places"] (defScope sRing) := ⟨rfl, rfl, rfl, by decide +kernel, rfl, by decide +kernel, by decide +kernel⟩
def spRing : Sp := fun vs H Q _ => ∃ (q c a : Addr) (ps : List Nat), vs = [.ref q, .ref a] ∧ Pool H q c ∧ H a = some (.lst (ps.map nV)) ∧ 0 < ps.length ∧ ps.length ≤ 12 ∧ ps.Nodup ∧ (∀ k, k < ps.length → k ∈ ps) ∧
  ∀ (H' : Hp) (p : Addr) (ls : List L3), Pool H' q c → KeepP q c H H' → H p = none → LstT H' p ls → ls.Nodup → ls.length ≤ 12 → (∀ l, l ∈ ls → Drawn ps l) → Q (.ref p) H'
theorem ok_ring {f f1 : Addr} {fd fd1 : FuncData} (F : Fun K "_law_ring_links" "_law_ring_links" sRing f fd) (B : Bi mg) (C1 : Cal P w K mg base 1 "_law_draw" f1 fd1 ["_law_pool_here", "_law_many"] spDraw) :
    FnOk P w K mg base CX0 2 f fd ["_law_pool_here", "_law_places"] spRing := by
  refine F.ok sc_ring (fun vs H Q E h => ?_) (fun cdv A outer s H vs Q E hr h => ?_)
  · obtain ⟨q, c, a, ps, rfl, _⟩ := h
    rfl
  · obtain ⟨q, c, a, ps, rfl, hP, ha, hp0, hp12, hnd, hall, g⟩ := h
    have nd := sc_ring.nd
    refine ⟨_, pss_cons (ps_setLc (i := 3) (own := [("_law_k", 2)]) (g := gName 2) (tt := tYes) (te := tBM K "list" (rIndex K) (tVar 1) (tCons (tVar 2) tNil)) (by rfl) nd rfl rfl (sw_true rfl rfl rfl (by decide +kernel))
        (pi_range1 (by rfl) B.range (pa_cons (pe_callB call_len_seq (by rfl) B.len PySem.boot_len (pa_cons (pv 1) pa_nil)) pa_nil)) (blkOk_by (N := nRing) (sc := defScope sRing) (by decide +kernel)) (fun _ _ _ _ _ => pg_name (i := 2) nd rfl (Or.inl rfl)) (fun _ _ _ _ _ => pts_nil)
        (fun _ _ _ _ _ => pe_bm PySem.F.plainAttrs_list PySem.F.slot_list_index PySem.F.type_list_index mt_index (pv 1) (pa_cons (pv 2) pa_nil)))
      (pss_cons (ps_set (i := 4) nd rfl (.inl rfl) (pe_lst pa_nil))
      (pss_cons (ps_for PassesOwn.never rfl (pi_range1 (by rfl) B.range (pa_cons (pe_op op_sub (pe_callB call_len_seq (by rfl) B.len PySem.boot_len (pa_cons (pv 3) pa_nil)) pe_int) pa_nil)) (pg_name (i := 2) nd rfl (Or.inl rfl))
        (pss_one (ps_expr (pe_bm PySem.F.plainAttrs_list PySem.F.slot_list_append PySem.F.type_list_append mt_append (pv 4) (pa_cons (pe_tup (pa_cons (pe_ix ix_list (pv 3) (pv 2) (fun _ _ => rfl)) (pa_cons (pe_ix ix_list (pv 3) (pe_op op_add (pv 2) pe_int) (fun _ _ => rfl)) (pa_cons pe_int pa_nil)))) pa_nil)))))
      (pss_one (ps_ret (pe_op op_cat (pv 4) (pe_lst (pa_cons (pe_tup (pa_cons (pe_ix ix_list (pv 3) (pe_un un_neg pe_int) (fun _ _ => rfl)) (pa_cons (pe_ix ix_list (pv 3) pe_int (fun _ _ => rfl)) (pa_cons (pe_op op_add pe_int (pcal C1 hr (pa_cons (pv 0) (pa_cons pe_int pa_nil)))) pa_nil)))) pa_nil))))))), ?_⟩
    have ei : ∀ k : Nat, (0 : Int) + (k : Nat) = (k : Nat) := fun k => Int.zero_add _
    refine ⟨.ref a, rfl, a, _, rfl, .inl (SqL.of ha), _, rfl, by rw [List.length_map]; omega, by rw [List.length_map]; omega, fun R nR => lc_range (lo := 0) (n := (((ps.map nV).length : Nat) : Int).toNat) (fun i H' => Same H H' ∧ ∃ rw : List Nat, H' R = some (.lst (rw.map nV)) ∧ rw.length = i ∧ ∀ (k j : Nat), rw[k]? = some j → ps[j]? = some k)
      ⟨same_upd nR, [], upd_same, rfl, fun k j e => by simp at e⟩ ?_ ?_⟩
    · rintro i H' hi ⟨sm, rw', eR, lr', hrw⟩
      rw [List.length_map] at hi
      rw [ei]
      obtain ⟨j, hj⟩ := List.getElem?_of_mem (hall i (by omega))
      refine ⟨rfl, .ref a, rfl, .inl ⟨rfl, _, SqL.of (sm _ _ ha)⟩, nV i, rfl, a, ps.map nV, nV i, j, nV i, rfl, rfl, SqL.of (sm _ _ ha), rfl, ?_, at_nat hj, ?_, ?_, ?_⟩
      · rw [List.all_map, List.all_eq_true]
        exact fun _ _ => rfl
      · show ((i : Int) == (i : Int)) = true
        exact beq_self_eq_true _
      · intro m z hm hz
        obtain ⟨k, hk, rfl⟩ := nat_at hz
        show ((k : Int) == (i : Int)) = false
        rw [beq_eq_false_iff_ne]
        intro z
        have : k = i := by omega
        subst this
        have := nd_ix hnd hk hj
        omega
      · refine ⟨_, eR, ?_, same_put nR sm, rw' ++ [j], ?_, ?_, ?_⟩
        · rw [List.length_map, lr']
          exact small1000 (by omega)
        · rw [upd_same, List.map_append]
          rfl
        · rw [List.length_append, lr']
          rfl
        · intro k x hk
          rcases snoc_at hk with ⟨_, h1⟩ | ⟨h1, h2⟩
          · exact hrw k x h1
          · rw [h1, h2, lr']
            exact hj
    · rintro H1 ⟨s1, rw', eR, lr', hrw⟩
      rw [List.length_map] at lr'
      have lr' : rw'.length = ps.length := by omega
      have R1 : RowOf ps rw' := ⟨lr', fun k hk => by
        have e : rw'[k]? = some rw'[k] := List.getElem?_eq_getElem (by omega)
        exact ⟨_, e, hrw k _ e⟩⟩
      obtain ⟨m, hm⟩ : ∃ m, ps.length = m + 1 := ⟨ps.length - 1, by omega⟩
      refine ⟨Nat.zero_le _, fun D nD => ?_⟩
      have s2 := same_upd (o := .lst []) nD
      have eR2 := s2 _ _ eR
      refine ⟨.ref R, rfl, R, _, rfl, .inl (SqL.of eR2), _, _, rfl, rfl, _, rfl, by rw [List.length_map]; omega, by rw [List.length_map]; omega, for_range (lo := 0) (n := ((((rw'.map nV).length : Nat) : Int) - 1).toNat) (fun i σ H' => ∃ (y2 : Option V) (as : List Addr), σ = [some (.ref q), some (.ref a), y2, some (.ref R), some (.ref D)] ∧ Same H1 H' ∧ H' D = some (.lst (as.map V.ref)) ∧ Tris H' as (ringL rw' i))
        ⟨_, [], rfl, s2, upd_same, Each.nil⟩ ?_ ?_⟩
      · rintro i σ H' hi ⟨y2, as, rfl, sm, eD, T⟩
        rw [List.length_map, lr', hm] at hi
        rw [ei, ringL_succ]
        have hi : i < m := by omega
        have eR' := sm _ _ eR
        refine ⟨.ref D, rfl, .inl ⟨rfl, _, SqL.of eD⟩, .ref R, rfl, nV i, rfl, R, _, _, _, rfl, rfl, SqL.of eR', atI_nat (at_nat (R1.get (by omega)).1), .ref R, rfl, nV i, rfl, _, _, rfl, rfl, R, _, _, _, rfl, rfl, SqL.of eR', atI_nat (j := i + 1) (at_nat (R1.get (by omega)).1), (by show 3 ≤ sizeLine; decide), fun t nt => ?_⟩
        have st := same_upd (o := .tup [nV (rw'.getD i 0), nV (rw'.getD (i + 1) 0), .int 0]) nt
        have eDt := st _ _ eD
        refine ⟨D, _, _, rfl, rfl, eDt, ?_, _, as ++ [t], rfl, same_put nD (sm.trans st), ?_, ?_⟩
        · rw [List.length_map, T.len]
          unfold ringL
          rw [List.length_map, List.length_range]
          exact small1000 (by omega)
        · rw [upd_same, List.map_append]
          rfl
        · refine (T.mono fun b l z => ?_).snoc ?_
          · have z' := st _ _ z
            show (upd _ D _) b = _
            rw [upd_ne (ne_of z' eDt (fun z => nomatch z))]
            exact z'
          · show (upd _ D _) t = _
            rw [upd_ne (ne_of_none eD nt).symm, upd_same]
            rfl
      · rintro σ H2 ⟨y2, as, rfl, s12, eD, T⟩
        rw [List.length_map, lr', hm, show ((((m + 1 : Nat) : Int)) - 1).toNat = m by omega] at T
        have sm := s1.trans s12
        have P2 := hP.same sm
        have eR' := s12 _ _ eR
        have nDH : H D = none := s1.free nD
        obtain ⟨Dq, Dc⟩ := hP.qn nDH
        refine ⟨.ref D, rfl, .ref R, rfl, 1, rfl, R, _, _, nV (rw'.getD m 0), rfl, rfl, SqL.of eR', atI_back (m := m) (by rw [List.length_map, lr', hm]) (at_nat (R1.get (by omega)).1), .ref R, rfl, R, _, 0, nV (rw'.getD 0 0), rfl, rfl, SqL.of eR', atI_nat (j := 0) (at_nat (R1.get (by omega)).1),
          .ref q, rfl, q, c, 2, rfl, P2, by decide, by decide, fun H3 d P3 k3 ld => ?_⟩
        refine ⟨_, _, rfl, rfl, (by show 3 ≤ sizeLine; decide), fun t nt => ⟨(by show 1 ≤ sizeLine; decide), fun u nu => ?_⟩⟩
        have st := same_upd (o := .tup [nV (rw'.getD m 0), nV (rw'.getD 0 0), .int (1 + (d : Int))]) nt
        have su := same_upd (o := .lst [.ref t]) nu
        have stu := st.trans su
        have eD3 := stu _ _ (k3 _ _ Dq Dc eD)
        refine ⟨D, u, _, _, rfl, rfl, eD3, upd_same, ?_, fun p np => ?_⟩
        · rw [List.length_map, T.len]
          unfold ringL
          rw [List.length_map, List.length_range]
          exact Nat.le_of_lt (small1000 (by show m + 1 ≤ 1000; omega))
        · have sp := same_upd (o := .lst (as.map V.ref ++ [.ref t])) np
          have sAll := stu.trans sp
          obtain ⟨g1, g2⟩ := ring_good R1 hm ld
          have kAll := (KeepP.of (q := q) (c := c) sm).trans (k3.trans (.of sAll))
          have npH : H p = none := by
            cases z : H p with
            | none => rfl
            | some o =>
              have pn := stu.free np
              by_cases zq : p = q
              · obtain ⟨_, _, e⟩ := P3.top
                rw [zq, e] at pn
                cases pn
              · by_cases zc : p = c
                · obtain ⟨_, e⟩ := P3.cells
                  rw [zc, e] at pn
                  cases pn
                · have e := k3 _ _ zq zc (sm _ _ z)
                  rw [pn] at e
                  cases e
          refine g _ p _ (P3.same sAll) kAll npH ⟨as ++ [t], ?_, ?_⟩ g1 ?_ g2
          · rw [upd_same, List.map_append]
            rfl
          · refine ((Tris.keep T P2 k3).same sAll).snoc ?_
            exact sp _ _ (su _ _ upd_same)
          · rw [List.length_append]
            unfold ringL
            rw [List.length_map, List.length_range]
            show m + 1 ≤ 12
            omega
end
end L2.Ac
namespace L2.Ac
open PySem PySem.Spec PyProof.Rows
open _root_.Ac
theorem KeepP.free {q c p : Addr} {H H' : Hp} (k : KeepP q c H H') (P : Pool H' q c) (e : H' p = none) : H p = none := by
  obtain ⟨a, b⟩ := P.qn e
  cases z : H p with
  | none => rfl
  | some o =>
    have z := k _ _ a b z
    rw [e] at z
    cases z
theorem LstT.keep {H H' : Hp} {q c p : Addr} {ls : List L3} (h : LstT H p ls) (P : Pool H q c) (n : p ≠ q ∧ p ≠ c) (k : KeepP q c H H') : LstT H' p ls := let ⟨as, e, T⟩ := h; ⟨as, k _ _ n.1 n.2 e, Tris.keep T P k⟩
theorem LstT.same {H H' : Hp} {p : Addr} {ls : List L3} (h : LstT H p ls) (s : Same H H') : LstT H' p ls := let ⟨as, e, T⟩ := h; ⟨as, s _ _ e, T.same s⟩
theorem good_of {ps : List Nat} {n : Nat} {ns bs : List L3} (hn : ps.length = n) (h1 : 1 ≤ n) (h12 : n ≤ 12) (dn : ∀ l, l ∈ ns → Drawn ps l) (db : ∀ l, l ∈ bs → Drawn ps l) (nn : ns.Nodup) (nb : bs.Nodup) (ln : ns.length ≤ 16) (lb : bs.length ≤ 16) : Good n ns bs := by
  refine ⟨h1, h12, fun l h => ?_, fun l h => ?_, nn, nb, by omega, by omega, fun s => ps.getD s 0, fun l h e => ?_⟩
  · have d := dn l h
    exact ⟨hn ▸ d.one, hn ▸ d.other, d.rounds⟩
  · have d := db l h
    exact ⟨hn ▸ d.one, hn ▸ d.other, d.rounds⟩
  · rcases List.mem_append.mp h with h | h
    · exact (dn l h).up e
    · exact (db l h).up e
theorem rgV_nat (n : Nat) : rgV 0 (n : Int) = (List.range n).map nV := by
  unfold rgV
  rw [show ((n : Int) - 0).toNat = n by omega]
  exact List.map_congr_left fun i _ => congrArg V.int (Int.zero_add _)
section
variable {P : Program} {w : World} {K : PySem.W.Frag} {mg : Str → Option Value} {base : Heap}
abbrev sSpec : Stmt := topS 37
abbrev nSpec : List Str := ["_law_pool_here", "_law_most", "_law_size", "_law_places", "_law_kind", "_law_far", "_law_needs", "_law_befores", "_law_one", "_law_other", "_law_rounds", "_law_back"]
theorem sc_spec : FnScope nSpec ["_law_pool_here", "_law_most"] (defScope sSpec) := ⟨rfl, rfl, rfl, by decide +kernel, rfl, by decide +kernel, by decide +kernel⟩
def spSpec : Sp := fun vs H Q _ => ∃ (q c : Addr), vs = [.ref q, .int 8] ∧ Pool H q c ∧
  ∀ (H' : Hp) (t tn tb : Addr) (n : Nat) (ns bs : List L3), Pool H' q c → KeepP q c H H' → H' t = some (.tup [nV n, .ref tn, .ref tb]) → TupT H' tn ns → TupT H' tb bs → Good n ns bs → n ≤ 8 → ns.length ≤ 16 → bs.length ≤ 16 → Q (.ref t) H'
theorem ok_spec {f f1 f2 f3 f4 : Addr} {fd fd1 fd2 fd3 fd4 : FuncData} (F : Fun K "_law_spec" "_law_spec" sSpec f fd) (B : Bi mg) (C1 : Cal P w K mg base 1 "_law_draw" f1 fd1 ["_law_pool_here", "_law_many"] spDraw)
    (C2 : Cal P w K mg base 2 "_law_mixed" f2 fd2 ["_law_pool_here", "_law_things"] spMixed) (C3 : Cal P w K mg base 2 "_law_some_links" f3 fd3 ["_law_pool_here", "_law_places", "_law_many", "_law_far"] spSome)
    (C4 : Cal P w K mg base 2 "_law_ring_links" f4 fd4 ["_law_pool_here", "_law_places"] spRing) : FnOk P w K mg base CX0 3 f fd ["_law_pool_here", "_law_most"] spSpec := by
  refine F.ok sc_spec (fun vs H Q E h => ?_) (fun cdv A outer s H vs Q E hr h => ?_)
  · obtain ⟨q, c, rfl, _⟩ := h
    rfl
  · obtain ⟨q, c, rfl, hP, g⟩ := h
    have nd := sc_spec.nd
    have hr1 : Room 1 _ := hr.mono (by decide)
    refine ⟨_, pss_cons (ps_set (i := 2) nd rfl (.inl rfl) (pe_op op_add pe_int (pcal C1 hr1 (pa_cons (pv 0) (pa_cons (pv 1) pa_nil)))))
      (pss_cons (ps_set (i := 3) nd rfl (.inl rfl) (pcal C2 hr (pa_cons (pv 0) (pa_cons (pe_listRg rfl (by rfl) B.list (prg_1 (by rfl) B.range (pv 2))) pa_nil))))
      (pss_cons (ps_set (i := 4) nd rfl (.inl rfl) (pcal C1 hr1 (pa_cons (pv 0) (pa_cons pe_int pa_nil))))
      (pss_cons (ps_set (i := 5) nd rfl (.inl rfl) (pe_ix ix_list (pe_lst (pa_cons pe_int (pa_cons pe_int (pa_cons pe_int (pa_cons pe_int pa_nil))))) (pcal C1 hr1 (pa_cons (pv 0) (pa_cons pe_int pa_nil))) (fun _ _ => rfl)))
      (pss_cons (ps_set (i := 6) nd rfl (.inl rfl) (pcal C3 hr (pa_cons (pv 0) (pa_cons (pv 3) (pa_cons (pe_op op_add pe_int (pcal C1 hr1 (pa_cons (pv 0) (pa_cons (pe_op op_mul pe_int (pv 2)) pa_nil)))) (pa_cons (pv 5) pa_nil))))))
      (pss_cons (ps_set (i := 7) nd rfl (.inl rfl) (pcal C3 hr (pa_cons (pv 0) (pa_cons (pv 3) (pa_cons (pcal C1 hr1 (pa_cons (pv 0) (pa_cons (pe_op op_add (pv 2) pe_int) pa_nil))) (pa_cons (pv 5) pa_nil))))))
      (C8.pss_cut (ps_if (pt_cmpR op_eq (pv 4) pe_int (nomark _)) (pss_one (ps_set (i := 6) nd rfl (.inl rfl) (pcal C4 hr (pa_cons (pv 0) (pa_cons (pv 3) pa_nil)))))
        (pss_one (ps_if (pt_cmpR op_eq (pv 4) pe_int (nomark _)) (pss_one (ps_set (i := 7) nd rfl (.inl rfl) (pcal C4 hr (pa_cons (pv 0) (pa_cons (pv 3) pa_nil)))))
        (pss_one (ps_if (pt_cmpR op_eq (pv 4) pe_int (nomark _)) (pss_cons (ps_set (i := 7) nd rfl (.inl rfl) (pe_lst pa_nil))
            (pss_one (ps_for PassesOwn.never rfl (pi_list (pv 6)) (pg_tup (n := 3) (by rfl) (pgs_cons (pg_name (i := 8) nd rfl (Or.inl rfl)) (pgs_cons (pg_name (i := 9) nd rfl (Or.inl rfl)) (pgs_cons (pg_name (i := 10) nd rfl (Or.inl rfl)) pgs_nil))))
              (pss_cons (ps_set (i := 11) nd rfl (.inl rfl) (pe_tup (pa_cons (pv 9) (pa_cons (pv 8) (pa_cons (pe_ix ix_list (pe_lst (pa_cons pe_int (pa_cons pe_int pa_nil))) (pcal C1 hr1 (pa_cons (pv 0) (pa_cons pe_int pa_nil))) (fun _ _ => rfl)) pa_nil)))))
              (pss_one (ps_if (pt_cmpR (op_notTri (hu65 hr)) (pv 11) (pv 7) (by rfl)) (pss_one (ps_expr (pe_bm PySem.F.plainAttrs_list PySem.F.slot_list_append PySem.F.type_list_append mt_append (pv 7) (pa_cons (pv 11) pa_nil)))) pss_nil))))))
        (pss_one (ps_if (pt_cmpR op_eq (pv 4) pe_int (nomark _)) (pss_one (ps_set (i := 6) nd rfl (.inl rfl) (pe_slice sl_list (pv 6) po_none (po_some (pcal C1 hr1 (pa_cons (pv 0) (pa_cons pe_int pa_nil))))))) pss_nil)))))))
      (pss_one (ps_ret (pe_tup (pa_cons (pv 2) (pa_cons (pe_callTy call_tuple_of (by rfl) B.tuple boot_tuple (pa_cons (pv 6) pa_nil)) (pa_cons (pe_callTy call_tuple_of (by rfl) B.tuple boot_tuple (pa_cons (pv 7) pa_nil)) pa_nil)))))))))))), ?_⟩
    -- size
    refine ⟨.ref q, rfl, .int 8, rfl, q, c, 8, rfl, hP, by decide, by decide, fun H1 z P1 k1 lz => ⟨_, _, rfl, rfl, ?_⟩⟩
    have hn1 : 1 ≤ 1 + z := by omega
    have hn8 : 1 + z ≤ 8 := by omega
    have en : (1 : Int) + (z : Int) = ((1 + z : Nat) : Int) := by omega
    -- places
    refine ⟨.ref q, rfl, _, rfl, _, rfl, RgOk.of_le (by omega) (by omega) (by omega) (by omega), fun L nL => ?_⟩
    have sL := same_upd (o := .lst (rgV 0 (1 + (z : Int)))) nL
    have eL : (upd H1 L (.lst (rgV 0 (1 + (z : Int))))) L = some (.lst ((List.range (1 + z)).map nV)) := by rw [upd_same, en, rgV_nat]
    refine ⟨q, c, L, List.range (1 + z), rfl, P1.same sL, eL, by rw [List.length_range]; omega, fun H2 a ps P2 k2 na ea hperm => ?_⟩
    have lps : ps.length = 1 + z := by rw [hperm.length_eq, List.length_range]
    have k02 : KeepP q c H H2 := k1.trans ((KeepP.of sL).trans k2)
    have naq := (P1.same sL).qn na
    -- kind
    refine ⟨.ref q, rfl, q, c, 5, rfl, P2, by decide, by decide, fun H3 kd P3 k3 lk => ?_⟩
    -- far
    refine ⟨(by show 4 ≤ sizeLine; decide), fun Lf nLf => ?_⟩
    have sF := same_upd (o := .lst [.int 1, .int 2, .int 3, .int 6]) nLf
    have nLfq := P3.qn nLf
    refine ⟨.ref q, rfl, q, c, 4, rfl, P3.same sF, by decide, by decide, fun H4 d4 P4 k4 l4 => ?_⟩
    have eF := k4 _ _ nLfq.1 nLfq.2 (upd_same (H := H3) (a := Lf) (o := .lst [.int 1, .int 2, .int 3, .int 6]))
    obtain ⟨fa, hfa, atF⟩ : ∃ fa : Nat, fa ≤ 6 ∧ ([V.int 1, V.int 2, V.int 3, V.int 6] : List V)[d4]? = some (nV fa) := by
      match d4, l4 with
      | 0, _ => exact ⟨1, by omega, rfl⟩
      | 1, _ => exact ⟨2, by omega, rfl⟩
      | 2, _ => exact ⟨3, by omega, rfl⟩
      | 3, _ => exact ⟨6, by omega, rfl⟩
    refine ⟨Lf, _, _, nV fa, rfl, rfl, SqL.of eF, atI_nat atF, ?_⟩
    have k24 : KeepP q c H2 H4 := k3.trans ((KeepP.of sF).trans k4)
    have ea4 := k24 _ _ naq.1 naq.2 ea
    -- needs
    refine ⟨.ref q, rfl, .ref a, rfl, .ref q, rfl, _, rfl, _, _, rfl, rfl, .inl ⟨by decide, by decide⟩, q, c, 2 * (1 + z), rfl, P4, by omega, by omega, fun H5 d5 P5 k5 l5 => ?_⟩
    have ea5 := k5 _ _ naq.1 naq.2 ea4
    refine ⟨_, _, rfl, rfl, nV fa, rfl, q, c, a, ps, 1 + d5, fa, rfl, P5, ea5, naq.1, naq.2, by omega, by omega, by omega, hfa, fun H6 pn ns P6 k6 npn En ndn lns dns => ?_⟩
    have npq := P5.qn npn
    have ea6 := k6 _ _ naq.1 naq.2 ea5
    -- befores
    refine ⟨.ref q, rfl, .ref a, rfl, .ref q, rfl, _, rfl, _, _, rfl, rfl, q, c, 1 + z + 2, rfl, P6, by omega, by omega, fun H7 d7 P7 k7 l7 => ?_⟩
    have ea7 := k7 _ _ naq.1 naq.2 ea6
    have En7 := En.keep P6 npq k7
    refine ⟨nV fa, rfl, q, c, a, ps, d7, fa, rfl, P7, ea7, naq.1, naq.2, by omega, by omega, by omega, hfa, fun H8 pb bs P8 k8 npb Eb ndb lbs dbs => ?_⟩
    have nbq := P7.qn npb
    have ea8 := k8 _ _ naq.1 naq.2 ea7
    have En8 := En7.keep P7 npq k8
    have k08 : KeepP q c H H8 := k02.trans (k24.trans (k5.trans (k6.trans (k7.trans k8))))
    clear k5 k6 k7 k8 k24 k02 k4 k3 k2 k1
    have hin : ∀ k, k < ps.length → k ∈ ps := fun k h => hperm.mem_iff.mpr (List.mem_range.mpr (by omega))
    have hnd : ps.Nodup := (hperm.nodup_iff).mpr List.nodup_range
    -- the kinds
    refine ⟨fun σ' H' => ∃ (pn pb : Addr) (ns bs : List L3) (y8 y9 y10 y11 : Option V), σ' = [some (.ref q), some (.int 8), some (nV (1 + z)), some (.ref a), some (nV kd), some (nV fa), some (.ref pn), some (.ref pb), y8, y9, y10, y11] ∧ Pool H' q c ∧ KeepP q c H H' ∧
      LstT H' pn ns ∧ LstT H' pb bs ∧ ns.Nodup ∧ bs.Nodup ∧ ns.length ≤ 16 ∧ bs.length ≤ 16 ∧ (∀ l, l ∈ ns → Drawn ps l) ∧ ∀ l, l ∈ bs → Drawn ps l, ?_, ?_⟩
    · have stay : ∃ (pn' pb' : Addr) (ns bs : List L3) (y8 y9 y10 y11 : Option V), [some (V.ref q), some (V.int 8), some (V.int (1 + (z : Int))), some (.ref a), some (nV kd), some (nV fa), some (.ref pn), some (.ref pb), none, none, none, none] = [some (V.ref q), some (.int 8), some (nV (1 + z)), some (.ref a), some (nV kd), some (nV fa), some (.ref pn'), some (.ref pb'), y8, y9, y10, y11] ∧ Pool H8 q c ∧ KeepP q c H H8 ∧
          LstT H8 pn' ns ∧ LstT H8 pb' bs ∧ ns.Nodup ∧ bs.Nodup ∧ ns.length ≤ 16 ∧ bs.length ≤ 16 ∧ (∀ l, l ∈ ns → Drawn ps l) ∧ ∀ l, l ∈ bs → Drawn ps l :=
        ⟨pn, pb, ns, bs, _, _, _, _, rfl, P8, k08, En8, Eb, ndn, ndb, by omega, by omega, dns, dbs⟩
      refine ⟨nV kd, rfl, rfl, _, rfl, ite2 (fun _ => ?_) (fun _ => ?_)⟩
      · refine ⟨.ref q, rfl, .ref a, rfl, q, c, a, ps, rfl, P8, ea8, by omega, by omega, hnd, hin, fun H9 p ls P9 k9 np E9 nd9 l9 d9 => ?_⟩
        exact ⟨p, pb, ls, bs, _, _, _, _, rfl, P9, k08.trans k9, E9, Eb.keep P8 nbq k9, nd9, ndb, by omega, by omega, d9, dbs⟩
      refine ⟨nV kd, rfl, rfl, _, rfl, ite2 (fun _ => ?_) (fun _ => ?_)⟩
      · refine ⟨.ref q, rfl, .ref a, rfl, q, c, a, ps, rfl, P8, ea8, by omega, by omega, hnd, hin, fun H9 p ls P9 k9 np E9 nd9 l9 d9 => ?_⟩
        exact ⟨pn, p, ns, ls, _, _, _, _, rfl, P9, k08.trans k9, En8.keep P8 npq k9, E9, ndn, nd9, by omega, by omega, dns, d9⟩
      refine ⟨nV kd, rfl, rfl, _, rfl, ite2 (fun _ => ?_) (fun _ => ?_)⟩
      · -- back links
        refine ⟨Nat.zero_le _, fun D nD => ?_⟩
        have sD := same_upd (o := .lst []) nD
        have nDq := P8.qn nD
        have nDH : H D = none := k08.free P8 nD
        obtain ⟨as, eN, TN⟩ := En8
        refine ⟨_, rfl, pn, rfl, ⟨_, SqL.of (sD _ _ eN)⟩, for_list (K := K) (a := pn) (xs := as.map V.ref) (fun i σ H' => ∃ (y8 y9 y10 y11 : Option V) (cs : List Addr) (ls : List L3), σ = [some (.ref q), some (.int 8), some (nV (1 + z)), some (.ref a), some (nV kd), some (nV fa), some (.ref pn), some (.ref D), y8, y9, y10, y11] ∧ Pool H' q c ∧ KeepP q c H H' ∧
            H' pn = some (.lst (as.map V.ref)) ∧ Tris H' as ns ∧ H' D = some (.lst (cs.map V.ref)) ∧ Tris H' cs ls ∧ ls.Nodup ∧ ls.length ≤ i ∧ ∀ l, l ∈ ls → Drawn ps l)
          ⟨_, _, _, _, [], [], rfl, P8.same sD, k08.trans (.of sD), sD _ _ eN, TN.same sD, upd_same, Each.nil, List.nodup_nil, Nat.le_refl _, fun l hl => by simp at hl⟩ (fun i σ H' _ z => ?_) ?_ ?_⟩
        · obtain ⟨_, _, _, _, _, _, _, _, _, e, _⟩ := z
          exact SqL.of e
        · rintro i y σ H9 hy ⟨y8, y9, y10, y11, cs, ls, rfl, P9, k9, eN9, TN9, eD9, T9, nd9, l9, d9⟩
          obtain ⟨b, hb, rfl⟩ := ref_at hy
          obtain ⟨l, hl, tl⟩ := TN9.at_ i b hb
          have hib := (List.getElem?_eq_some_iff.mp hl).1
          have dl := dns l (List.mem_of_getElem? hl)
          refine ⟨b, _, rfl, SqT.of tl, rfl, nV l.1, _, rfl, nV l.2.1, _, rfl, nV l.2.2, _, rfl, rfl, ?_⟩
          refine ⟨nV l.2.1, rfl, nV l.1, rfl, (by show 2 ≤ sizeLine; decide), fun Lt nLt => ?_⟩
          have sT := same_upd (o := .lst [.int 1, .int 2]) nLt
          have nLtq := P9.qn nLt
          refine ⟨.ref q, rfl, q, c, 2, rfl, P9.same sT, by decide, by decide, fun H10 d10 P10 k10 l10 => ?_⟩
          have eT := k10 _ _ nLtq.1 nLtq.2 (upd_same (H := H9) (a := Lt) (o := .lst [.int 1, .int 2]))
          obtain ⟨rr, hr1', hr2', atR⟩ : ∃ rr : Nat, 1 ≤ rr ∧ rr ≤ 2 ∧ ([V.int 1, V.int 2] : List V)[d10]? = some (nV rr) := by
            match d10, l10 with
            | 0, _ => exact ⟨1, by omega, by omega, rfl⟩
            | 1, _ => exact ⟨2, by omega, by omega, rfl⟩
          have k910 : KeepP q c H9 H10 := (KeepP.of sT).trans k10
          have npn' : pn ≠ q ∧ pn ≠ c := npq
          have eN10 := k910 _ _ npq.1 npq.2 eN9
          have eD10 := k910 _ _ nDq.1 nDq.2 eD9
          have T10 := Tris.keep T9 P9 k910
          have TN10 := Tris.keep TN9 P9 k910
          refine ⟨Lt, _, _, nV rr, rfl, rfl, SqL.of eT, atI_nat atR, (by show 3 ≤ sizeLine; decide), fun t nt => ?_⟩
          have st := same_upd (o := .tup [nV l.2.1, nV l.1, nV rr]) nt
          have tt : Tri (upd H10 t (.tup [nV l.2.1, nV l.1, nV rr])) t (l.2.1, l.1, rr) := upd_same
          have P11 := P10.same st
          have k11 : KeepP q c H (upd H10 t (.tup [nV l.2.1, nV l.1, nV rr])) := k9.trans (k910.trans (.of st))
          have eN11 := st _ _ eN10
          have eD11 := st _ _ eD10
          have T11 := T10.same st
          have TN11 := TN10.same st
          generalize upd H10 t (.tup [nV l.2.1, nV l.1, nV rr]) = H11 at tt P11 k11 eN11 eD11 T11 TN11
          refine ⟨.ref t, rfl, .ref D, rfl, t, D, (l.2.1, l.1, rr), cs, ls, rfl, rfl, tt, .inl (SqL.of eD11), T11, _, rfl, ?_⟩
          by_cases cm : (l.2.1, l.1, rr) ∈ ls
          · rw [decide_eq_true cm]
            exact ⟨_, _, _, _, cs, ls, rfl, P11, k11, eN11, TN11, eD11, T11, nd9, by omega, d9⟩
          · rw [decide_eq_false cm]
            refine ⟨.ref D, rfl, .inl ⟨rfl, _, SqL.of eD11⟩, .ref t, rfl, D, _, .ref t, rfl, rfl, eD11, ?_, _, _, _, _, cs ++ [t], ls ++ [(l.2.1, l.1, rr)], rfl, ?_, ?_, ?_, ?_, ?_, ?_, ?_, ?_, ?_⟩
            · rw [List.length_map, T11.len]
              exact small1000 (by omega)
            · obtain ⟨z1, ⟨z2, z3, z4⟩, z5, z6⟩ := P11
              exact ⟨z1, ⟨z2, z3, by rw [upd_ne nDq.1.symm]; exact z4⟩, z5, by rw [upd_ne nDq.2.symm]; exact z6⟩
            · intro b o n1 n2 e
              rw [upd_ne (ne_of_none e nDH)]
              exact k11 b o n1 n2 e
            · rw [upd_ne (ne_of_none eN nD)]
              exact eN11
            · exact TN11.mono fun b m z => by
                show (upd _ D _) b = _
                rw [upd_ne (ne_of z eD11 (fun z => nomatch z))]
                exact z
            · rw [upd_same, List.map_append]
              rfl
            · refine (T11.mono fun b m z => ?_).snoc ?_
              · show (upd _ D _) b = _
                rw [upd_ne (ne_of z eD11 (fun z => nomatch z))]
                exact z
              · show (upd _ D _) t = _
                rw [upd_ne (ne_of tt eD11 (fun z => nomatch z))]
                exact tt
            · rw [List.nodup_append]
              refine ⟨nd9, by simp, fun b hb z hz e => ?_⟩
              rw [List.mem_singleton.mp hz] at e
              exact cm (e ▸ hb)
            · rw [List.length_append]
              exact Nat.succ_le_succ l9
            · intro m hm
              rcases List.mem_append.mp hm with hm | hm
              · exact d9 m hm
              · rw [List.mem_singleton.mp hm]
                exact ⟨dl.other, dl.one, by show rr ≤ 6; omega, fun z => by have z : rr = 0 := z; omega⟩
        · rintro σ H9 ⟨y8, y9, y10, y11, cs, ls, rfl, P9, k9, eN9, TN9, eD9, T9, nd9, l9, d9⟩
          rw [List.length_map, TN.len] at l9
          exact ⟨pn, D, ns, ls, y8, y9, y10, y11, rfl, P9, k9, ⟨as, eN9, TN9⟩, ⟨cs, eD9, T9⟩, ndn, nd9, by omega, by omega, dns, d9⟩
      refine ⟨nV kd, rfl, rfl, _, rfl, ite2 (fun _ => ?_) (fun _ => stay)⟩
      · -- fewer needs
        obtain ⟨as, eN, TN⟩ := En8
        refine ⟨.ref pn, rfl, .ref q, rfl, q, c, 3, rfl, P8, by decide, by decide, fun H9 d9 P9 k9 l9 => ⟨(d9 : Int), rfl, ?_⟩⟩
        have eN9 := k9 _ _ npq.1 npq.2 eN
        refine ⟨pn, _, rfl, SqL.of eN9, fun u nu => ?_⟩
        have ec : cutV (as.map V.ref) none (some (d9 : Int)) = (as.take (min d9 as.length)).map V.ref := by
          unfold cutV
          rw [HT.sIx_none, HT.sIx_nat, List.drop_zero, List.length_map, Nat.sub_zero, List.map_take]
        have su := same_upd (o := .lst (cutV (as.map V.ref) none (some (d9 : Int)))) nu
        have T9 := (Tris.keep TN P8 k9).same su
        refine ⟨u, pb, ns.take (min d9 as.length), bs, _, _, _, _, rfl, P9.same su, (k08.trans k9).trans (.of su), ⟨as.take (min d9 as.length), by rw [upd_same, ec], ?_⟩, (Eb.keep P8 nbq k9).same su, List.Sublist.nodup (List.take_sublist _ _) ndn, ndb, ?_, by omega, fun l hl => dns l (List.mem_of_mem_take hl), dbs⟩
        · refine ⟨by rw [List.length_take, List.length_take, TN.len], fun i b hb => ?_⟩
          rw [List.getElem?_take] at hb
          by_cases c : i < min d9 as.length
          · rw [if_pos c] at hb
            obtain ⟨l, h1, h2⟩ := T9.at_ i b hb
            exact ⟨l, by rw [List.getElem?_take, if_pos c]; exact h1, h2⟩
          · rw [if_neg c] at hb
            cases hb
        · rw [List.length_take]
          omega
    · rintro σ' H' ⟨pn, pb, ns, bs, y8, y9, y10, y11, rfl, P9, k9, ⟨as, eN, TN⟩, ⟨cs, eB, TB⟩, nn, nb, ln, lb, dn, db⟩
      refine ⟨nV (1 + z), rfl, .ref pn, rfl, pn, _, rfl, .inl ⟨SqL.of eN, fun tn ntn => ?_⟩⟩
      have s1 := same_upd (o := .tup (as.map V.ref)) ntn
      refine ⟨.ref pb, rfl, pb, _, rfl, .inl ⟨SqL.of (s1 _ _ eB), fun tb ntb => ⟨(by show 3 ≤ sizeLine; decide), fun t nt => ?_⟩⟩⟩
      have s2 := same_upd (o := .tup (cs.map V.ref)) ntb
      have s3 := same_upd (o := .tup [nV (1 + z), .ref tn, .ref tb]) nt
      have s23 := s2.trans s3
      have s13 := s1.trans s23
      exact g _ t tn tb (1 + z) ns bs (P9.same s13) (k9.trans (.of s13)) upd_same ⟨as, s23 _ _ upd_same, TN.same s13⟩ ⟨cs, s3 _ _ upd_same, TB.same s13⟩ (good_of lps hn1 (by omega) dn db nn nb ln lb) hn8 ln lb
end
end L2.Ac
namespace L2.Ac
open PySem PySem.Spec PyProof.Rows
open _root_.Ac
/-- the spec as a tuple -/
def SpecAt (H : Hp) (t : Addr) (n : Nat) (ns bs : List L3) : Prop := ∃ tn tb : Addr, H t = some (.tup [nV n, .ref tn, .ref tb]) ∧ TupT H tn ns ∧ TupT H tb bs
theorem SpecAt.same {H H' : Hp} {t : Addr} {n : Nat} {ns bs : List L3} (h : SpecAt H t n ns bs) (s : Same H H') : SpecAt H' t n ns bs := let ⟨tn, tb, e1, e2, e3⟩ := h; ⟨tn, tb, s _ _ e1, e2.same s, e3.same s⟩
/-- a list of pairs -/
def PrL (H : Hp) (p : Addr) (ps : List (Nat × Nat)) : Prop := ∃ cs : List Addr, H p = some (.lst (cs.map V.ref)) ∧ Each (Pr2 H) cs ps
section
variable {P : Program} {w : World} {K : PySem.W.Frag} {mg : Str → Option Value} {base : Heap}
/-! ### _law_program -/
abbrev sProgram : Stmt := topS 38
theorem sc_program : FnScope ["_law_spec_here"] ["_law_spec_here"] (defScope sProgram) := ⟨rfl, rfl, rfl, by decide +kernel, rfl, by decide +kernel, by decide +kernel⟩
def spProgram (C : Addr) : Sp := fun vs H Q _ => ∃ (t : Addr) (n : Nat) (ns bs : List L3), vs = [.ref t] ∧ SpecAt H t n ns bs ∧ Good n ns bs ∧ ∀ H' x, Same H H' → H x = none → ProgAt C H' x n ns bs → Q (.ref x) H'
theorem ok_program {f fI C : Addr} {fd fdI : FuncData} (F : Fun K "_law_program" "_law_program" sProgram f fd) (T : PC K mg C) (M : Mk K C fI) (GI : FnOk P w K mg base CX0 5 fI fdI ["self", "steps", "needs", "befores"] (spKeep C)) (bI : Binds K fdI ["self", "steps", "needs", "befores"] []) :
    FnOk P w K mg base CX0 7 f fd ["_law_spec_here"] (spProgram C) := by
  refine F.ok sc_program (fun vs H Q E h => ?_) (fun cdv A outer s H vs Q E hr h => ?_)
  · obtain ⟨t, n, ns, bs, rfl, _⟩ := h
    rfl
  · obtain ⟨t, n, ns, bs, rfl, ⟨tn, tb, et, en, eb⟩, G, q⟩ := h
    have hT : SqT K H t [nV n, .ref tn, .ref tb] := SqT.of et
    refine ⟨_, pss_one (ps_ret (pe_make M GI hr (by rfl) T.g bI .nil pass0 (pa_cons (pe_ix ix_tup (pv 0) pe_int (fun _ _ => rfl)) (pa_cons (pe_ix ix_tup (pv 0) pe_int (fun _ _ => rfl)) (pa_cons (pe_ix ix_tup (pv 0) pe_int (fun _ _ => rfl)) pa_nil))))), ?_⟩
    refine ⟨.ref t, rfl, t, _, 0, nV n, rfl, rfl, hT, atI_nat (j := 0) rfl, .ref t, rfl, t, _, 1, .ref tn, rfl, rfl, hT, atI_nat (j := 1) rfl, .ref t, rfl, t, _, 2, .ref tb, rfl, rfl, hT, atI_nat (j := 2) rfl, fun x dx nx ndx nex => ?_⟩
    have s0 : Same H (upd (upd H dx (.own x)) x (.ins C dx [])) := fun b o e => by
      rw [upd_ne (ne_of_none e nx), upd_ne (ne_of_none e ndx)]
      exact e
    exact ⟨x, dx, tn, tb, n, ns, bs, rfl, upd_same, en.same s0, eb.same s0, G, fun H' PA k => ⟨rfl, q H' x (Same.made nx ndx k) nx PA⟩⟩
/-! ### _law_readers -/
abbrev sReaders : Stmt := topS 39
abbrev nReaders : List Str := ["_law_spec_here", "_law_step", "_law_one", "_law_other", "_law_rounds"]
theorem sc_readers : FnScope nReaders ["_law_spec_here", "_law_step"] (defScope sReaders) := ⟨rfl, rfl, rfl, by decide +kernel, rfl, by decide +kernel, by decide +kernel⟩
def spReaders : Sp := fun vs H Q _ => ∃ (t : Addr) (n s : Nat) (ns bs : List L3), vs = [.ref t, nV s] ∧ SpecAt H t n ns bs ∧ ns.length ≤ 100 ∧ ∀ (H' : Hp) (p : Addr) (ps : List (Nat × Nat)), Same H H' → H p = none → PrL H' p ps → ps.Perm (rds ns s) → Q (.ref p) H'
theorem ok_readers {f : Addr} {fd : FuncData} (F : Fun K "_law_readers" "_law_readers" sReaders f fd) (B : Bi mg) : FnOk P w K mg base CX0 1 f fd ["_law_spec_here", "_law_step"] spReaders := by
  refine F.ok sc_readers (fun vs H Q E h => ?_) (fun cdv A outer s H vs Q E hr h => ?_)
  · obtain ⟨t, n, st, ns, bs, rfl, _⟩ := h
    rfl
  · obtain ⟨t, n, st, ns, bs, rfl, ⟨tn, tb, et, ⟨as, ea, TA⟩, eb⟩, hl, q⟩ := h
    have nd := sc_readers.nd
    refine ⟨_, pss_one (ps_ret (pe_callB cr_sortedP (by rfl) B.sorted boot_sorted (pa_cons (pe_lc (own := [("_law_one", 2), ("_law_other", 3), ("_law_rounds", 4)]) (g := gT3 K 2 3 4) (tt := tTest (tOp rEq (tVar 2) (tVar 1))) (te := tTup (tCons (tVar 3) (tCons (tVar 4) tNil))) (by rfl) nd
      (pi_tup (pe_ix ix_tup (pv 0) pe_int (fun _ _ => rfl))) (blkOk_by (N := nReaders) (sc := defScope sReaders) (by decide +kernel))
      (fun _ _ _ _ _ => pg_tup (by rfl) (pgs_cons (pg_name (i := 2) nd rfl (Or.inl rfl)) (pgs_cons (pg_name (i := 3) nd rfl (Or.inl rfl)) (pgs_cons (pg_name (i := 4) nd rfl (Or.inl rfl)) pgs_nil))))
      (fun _ _ _ _ _ => pts_one (pt_cmpR op_eq (pv 2) (pv 1) (nomark _))) (fun _ _ _ _ _ => pe_tup (pa_cons (pv 3) (pa_cons (pv 4) pa_nil)))) pa_nil))), ?_⟩
    refine ⟨.ref t, rfl, t, _, 1, .ref tn, rfl, rfl, SqT.of et, atI_nat (j := 1) rfl, tn, rfl, ⟨_, SqT.of ea⟩, fun D nD => lc_tup (K := K) (a := tn) (xs := as.map V.ref) (fun i H' => Same H H' ∧ ∃ cs : List Addr, H' D = some (.lst (cs.map V.ref)) ∧ Each (Pr2 H') cs (rds (ns.take i) st))
      ⟨same_upd nD, [], upd_same, by rw [List.take_zero]; exact Each.nil⟩ (fun i H' _ z => SqT.of (z.1 _ _ ea)) ?_ ?_⟩
    · rintro i y H' hy ⟨sm, cs, eD, ec⟩
      obtain ⟨a, ha, rfl⟩ := ref_at hy
      obtain ⟨l, hl', ht⟩ := TA.at_ i a ha
      have hi := (List.getElem?_eq_some_iff.mp hl').1
      have lrd : (rds (ns.take i) st).length ≤ i := by
        unfold rds
        rw [List.length_map]
        refine Nat.le_trans (List.length_filter_le _ _) ?_
        rw [List.length_take]
        exact Nat.min_le_left _ _
      rw [rds_snoc hl']
      refine ⟨a, triV l, rfl, SqT.of (sm _ _ ht), rfl, nV l.1, _, rfl, nV l.2.1, _, rfl, nV l.2.2, _, rfl, rfl, rfl, nV l.1, rfl, nV st, rfl, rfl, _, rfl, ite2 (fun e => ?_) (fun e => ?_)⟩
      · have e : (l.1 : Int) = st := V.int.inj (of_decide_eq_true e)
        have e : l.1 = st := by omega
        rw [if_pos e]
        refine ⟨nV l.2.1, rfl, nV l.2.2, rfl, (by show 2 ≤ sizeLine; decide), fun u nu => ?_⟩
        have su := same_upd (o := .tup [nV l.2.1, nV l.2.2]) nu
        have eDu := su _ _ eD
        refine ⟨cs.map V.ref, eDu, ?_, same_put nD (sm.trans su), cs ++ [u], ?_, ?_⟩
        · rw [List.length_map, ec.len]
          exact small1000 (by omega)
        · rw [upd_same, List.map_append]
          rfl
        · refine (ec.mono fun d r z => ?_).snoc ?_
          · have z' := su _ _ z
            unfold Pr2
            rw [upd_ne (ne_of z' eDu (fun z => nomatch z))]
            exact z'
          · unfold Pr2
            rw [upd_ne (ne_of_none eD nu).symm, upd_same]
      · have e : ¬ l.1 = st := fun z => e (decide_eq_true (by rw [z]))
        rw [if_neg e, List.append_nil]
        exact ⟨sm, cs, eD, ec⟩
    · rintro H1 ⟨s1, cs, eD, ec⟩
      rw [List.length_map, TA.len, List.take_of_length_le (Nat.le_refl _)] at ec
      refine ⟨D, _, rfl, SqL.of eD, fun v hv => ?_, fun ys u hperm nu => ?_⟩
      · obtain ⟨c, hc, rfl⟩ := List.mem_map.mp hv
        obtain ⟨j, hj⟩ := List.getElem?_of_mem hc
        obtain ⟨m, _, em⟩ := ec.at_ j c hj
        exact ⟨c, _, _, rfl, em⟩
      · obtain ⟨es, rfl, hes⟩ := perm_refs hperm rfl
        obtain ⟨ms, em, hms⟩ := Each.perm hes ec
        have su := same_upd (o := .lst (es.map V.ref)) nu
        exact q _ u ms (s1.trans su) (s1.free nu) ⟨es, upd_same, em.mono fun _ _ z => su _ _ z⟩ hms
/-! ### _law_makers -/
abbrev sMakers : Stmt := topS 40
abbrev nMakers : List Str := ["_law_spec_here", "_law_step"]
theorem sc_makers : FnScope nMakers ["_law_spec_here"] (defScope sMakers) := ⟨rfl, rfl, rfl, by decide +kernel, rfl, by decide +kernel, by decide +kernel⟩
def spMakers : Sp := fun vs H Q _ => ∃ (t : Addr) (n : Nat) (ns bs : List L3), vs = [.ref t] ∧ SpecAt H t n ns bs ∧ ns.length ≤ 100 ∧ n ≤ 100 ∧ ∀ (H' : Hp) (p : Addr), Same H H' → H p = none → H' p = some (.lst ((mks n ns).map nV)) → Q (.ref p) H'
theorem ok_makers {f f1 : Addr} {fd fd1 : FuncData} (F : Fun K "_law_makers" "_law_makers" sMakers f fd) (B : Bi mg) (C1 : Cal P w K mg base 1 "_law_readers" f1 fd1 ["_law_spec_here", "_law_step"] spReaders) : FnOk P w K mg base CX0 2 f fd ["_law_spec_here"] spMakers := by
  refine F.ok sc_makers (fun vs H Q E h => ?_) (fun cdv A outer s H vs Q E hr h => ?_)
  · obtain ⟨t, n, ns, bs, rfl, _⟩ := h
    rfl
  · obtain ⟨t, n, ns, bs, rfl, hS, hl, hn, q⟩ := h
    obtain ⟨tn, tb, et, _, _⟩ := id hS
    have nd := sc_makers.nd
    refine ⟨_, pss_one (ps_ret (pe_lc (own := [("_law_step", 1)]) (g := gName 1) (tt := tTest (tOp rGt0 (tCB (rLenS K) (tCons (tCall spReaders [] E0 (tCons (tVar 0) (tCons (tVar 1) tNil))) tNil)) (tC (.int 0)))) (by rfl) nd (pi_range1 (by rfl) B.range (pa_cons (pe_ix ix_tup (pv 0) pe_int (fun _ _ => rfl)) pa_nil))
      (blkOk_by (N := nMakers) (sc := defScope sMakers) (by decide +kernel)) (fun _ _ _ _ _ => pg_name (i := 1) nd rfl (Or.inl rfl))
      (fun _ _ _ _ _ => pts_one (pt_cmpR op_gt (pe_callB lenS (by rfl) B.len PySem.boot_len (pa_cons (pcal C1 hr (pa_cons (pv 0) (pa_cons (pv 1) pa_nil))) pa_nil)) pe_int (nomark _))) (fun _ _ _ _ _ => pv 1))), ?_⟩
    refine ⟨.ref t, rfl, t, _, 0, nV n, rfl, rfl, SqT.of et, atI_nat (j := 0) rfl, n, rfl, by omega, by omega, fun D nD => lc_range (lo := 0) (n := ((n : Int)).toNat) (fun i H' => Same H H' ∧ H' D = some (.lst (((List.range i).filter fun s => decide (0 < (rds ns s).length)).map nV))) ⟨same_upd nD, upd_same⟩ ?_ ?_⟩
    · rintro i H' hi ⟨sm, eD⟩
      rw [show (0 : Int) + (i : Nat) = (i : Nat) from Int.zero_add _]
      refine ⟨rfl, .ref t, rfl, nV i, rfl, t, n, i, ns, bs, rfl, hS.same sm, hl, fun H2 p ps s2 np ⟨cs, ep, ec⟩ hperm => ?_⟩
      refine ⟨p, _, rfl, .inl (SqL.of ep), _, _, rfl, rfl, _, rfl, ?_⟩
      rw [List.length_map, ec.len, hperm.length_eq, List.range_succ, List.filter_append]
      refine ite2 (fun z => ?_) (fun z => ?_)
      · have z : (0 : Int) < ((rds ns i).length : Nat) := of_decide_eq_true z
        have z : 0 < (rds ns i).length := by omega
        refine ⟨_, rfl, _, s2 _ _ eD, ?_, same_put nD (sm.trans s2), ?_⟩
        · rw [List.length_map]
          refine small1000 (Nat.le_trans (List.length_filter_le _ _) ?_)
          rw [List.length_range]
          omega
        · rw [upd_same, List.map_append]
          congr 2
          rw [List.filter_cons, if_pos (decide_eq_true z)]
          rfl
      · have z : ¬ 0 < (rds ns i).length := fun y => z (decide_eq_true (by omega))
        refine ⟨sm.trans s2, ?_⟩
        rw [List.filter_cons, if_neg (fun y => z (of_decide_eq_true y)), List.filter_nil, List.append_nil]
        exact s2 _ _ eD
    · rintro H1 ⟨s1, eD⟩
      rw [show ((n : Int)).toNat = n by omega] at eD
      exact q H1 D s1 nD eD
/-! ### _law_no_more -/
abbrev sNoMore : Stmt := topS 41
theorem sc_no_more : FnScope ["_law_one", "_law_other"] ["_law_one", "_law_other"] (defScope sNoMore) := ⟨rfl, rfl, rfl, by decide +kernel, rfl, by decide +kernel, by decide +kernel⟩
def spNoMore : Sp := fun vs H Q _ => ∃ (a b : Option Nat), vs = [oV a, oV b] ∧ (∀ x, a = some x → ∃ y, b = some y ∧ y ≤ x) ∧ Q (.bl true) H
theorem ok_no_more {f : Addr} {fd : FuncData} (F : Fun K "_law_no_more" "_law_no_more" sNoMore f fd) : FnOk P w K mg base CX0 1 f fd ["_law_one", "_law_other"] spNoMore := by
  refine F.ok sc_no_more (fun vs H Q E h => ?_) (fun cdv A outer s H vs Q E hr h => ?_)
  · obtain ⟨a, b, rfl, _⟩ := h
    rfl
  · obtain ⟨a, b, rfl, hab, q⟩ := h
    refine ⟨_, pss_one (ps_ret (pe_or (pe_cmpR op_isN (pv 0) pe_non (nomark _)) (pe_one (pe_and (pe_cmpR op_notN (pv 1) pe_non (nomark _)) (pe_one (pe_cmpR op_le (pv 1) (pv 0) (nomark _))))))), ?_⟩
    cases a with
    | none => exact ⟨.non, rfl, rfl, true, rfl, q⟩
    | some x =>
      obtain ⟨y, rfl, hy⟩ := hab x rfl
      refine ⟨nV x, rfl, rfl, false, rfl, nV y, rfl, rfl, true, rfl, nV y, rfl, nV x, rfl, _, _, rfl, rfl, ?_⟩
      show Q (V.bl (decide ((y : Int) ≤ (x : Int)))) H
      rw [decide_eq_true (show (y : Int) ≤ (x : Int) by omega)]
      exact q
end
end L2.Ac
namespace L2.Ac
open PySem PySem.Spec PyProof.Rows
open _root_.Ac
theorem TupT.keep {H H' : Hp} {q c p : Addr} {ls : List L3} (h : TupT H p ls) (P : Pool H q c) (k : KeepP q c H H') : TupT H' p ls := let ⟨as, e, T⟩ := h; ⟨as, k.tup P e, Tris.keep T P k⟩
theorem SpecAt.keep {H H' : Hp} {q c t : Addr} {n : Nat} {ns bs : List L3} (h : SpecAt H t n ns bs) (P : Pool H q c) (k : KeepP q c H H') : SpecAt H' t n ns bs := let ⟨tn, tb, e1, e2, e3⟩ := h; ⟨tn, tb, k.tup P e1, e2.keep P k, e3.keep P k⟩
theorem Pool.refs {H : Hp} {q c b : Addr} {as : List Addr} (h : Pool H q c) (e : H b = some (.lst (as.map V.ref))) (ha : 0 < as.length) : b ≠ q ∧ b ≠ c := by
  cases as with
  | nil => exact absurd ha (by simp)
  | cons a r =>
    refine ⟨fun z => ?_, fun z => ?_⟩
    · obtain ⟨s, k, e2⟩ := h.top
      rw [z, e2] at e
      have e := HO.lst.inj (Option.some.inj e)
      cases e
    · obtain ⟨cs, e2⟩ := h.cells
      rw [z, e2] at e
      have e := HO.lst.inj (Option.some.inj e)
      cases cs with
      | nil => cases e
      | cons k r2 => cases e
theorem ProgAt.keep {C : Addr} {H H' : Hp} {q c x : Addr} {n : Nat} {ns bs : List L3} (h : ProgAt C H x n ns bs) (hn : 1 ≤ n) (P : Pool H q c) (k : KeepP q c H H') : ProgAt C H' x n ns bs := by
  obtain ⟨dx, fs, pl, pr, pm, e1, e2, e3, e4, e5, ⟨as, e6, L⟩, ⟨ts, e7, l7, r7⟩, e8⟩ := h
  have nr := P.refs e7 (by omega)
  refine ⟨dx, fs, pl, pr, pm, k _ _ (P.qi e1).1 (P.qi e1).2 e1, e2, e3, e4, e5, ⟨as, k.tup P e6, L.mono fun a m ⟨u, v, z⟩ => ⟨u, v, k.tup P z⟩⟩, ⟨ts, k _ _ nr.1 nr.2 e7, l7, fun s t e => ?_⟩, k.tup P e8⟩
  obtain ⟨ps, ⟨cs, z1, z2⟩, z3⟩ := r7 s t e
  exact ⟨ps, ⟨cs, k.tup P z1, z2.mono fun a m z => k.tup P z⟩, z3⟩
/-- what stands through the law -/
structure Ctx (C q c t x L : Addr) (n : Nat) (ns bs : List L3) (H : Hp) : Prop where
  pool : Pool H q c
  spec : SpecAt H t n ns bs
  prog : ProgAt C H x n ns bs
  lot : H L = some (.lst ((mks n ns).map nV))
  ne : L ≠ q ∧ L ≠ c
theorem Ctx.same {C q c t x L : Addr} {n : Nat} {ns bs : List L3} {H H' : Hp} (h : Ctx C q c t x L n ns bs H) (s : Same H H') : Ctx C q c t x L n ns bs H' := ⟨h.pool.same s, h.spec.same s, h.prog.same s, s _ _ h.lot, h.ne⟩
theorem Ctx.keep {C q c t x L : Addr} {n : Nat} {ns bs : List L3} {H H' : Hp} (h : Ctx C q c t x L n ns bs H) (hn : 1 ≤ n) (P' : Pool H' q c) (k : KeepP q c H H') : Ctx C q c t x L n ns bs H' :=
  ⟨P', h.spec.keep h.pool k, h.prog.keep hn h.pool k, k _ _ h.ne.1 h.ne.2 h.lot, h.ne⟩
/-- a + b of two tuples of links -/
def rCatTri : R2 := fun x y H Q => ∃ (a b : Addr) (ls ms : List L3), x = .ref a ∧ y = .ref b ∧ TupT H a ls ∧ TupT H b ms ∧ ls.length ≤ 100 ∧ ms.length ≤ 100 ∧ ∀ H' p, Same H H' → TupT H' p (ls ++ ms) → Q (.ref p) H'
theorem op_catTri {X : Cx} : OpR X (binaryOp .Add) rCatTri := by
  intro pins s σ H x y v u Q I rx ry h
  obtain ⟨a, b, ls, ms, rfl, rfl, ⟨as, ea, TA⟩, ⟨cs, ec, TC⟩, l1, l2, q⟩ := h
  have k1 := TA.len
  have k2 := TC.len
  refine op_catA pins s σ H (.ref a) (.ref b) v u Q I rx ry ⟨a, b, as.map V.ref, cs.map V.ref, rfl, rfl, SqT.of ea, SqT.of ec, ?_, fun z => ?_, fun _ z => ?_, fun _ _ p np => ?_⟩
  · rw [List.length_map, List.length_map]
    exact Nat.le_of_lt (small1000 (by omega))
  · have z1 : as = [] := List.map_eq_nil_iff.mp z
    subst z1
    have z2 : ls = [] := List.eq_nil_of_length_eq_zero (by rw [← k1]; rfl)
    subst z2
    exact q H b (Same.refl H) ⟨cs, ec, TC⟩
  · have z1 : cs = [] := List.map_eq_nil_iff.mp z
    subst z1
    have z2 : ms = [] := List.eq_nil_of_length_eq_zero (by rw [← k2]; rfl)
    subst z2
    refine q H a (Same.refl H) ⟨as, ea, ?_⟩
    rw [List.append_nil]
    exact TA
  · have sp := same_upd (o := .tup (as.map V.ref ++ cs.map V.ref)) np
    exact q _ p sp ⟨as ++ cs, by rw [upd_same, List.map_append], (TA.same sp).app (TC.same sp)⟩
/-- Program(..), where its parts are right -/
theorem made {C : Addr} {H : Hp} {p r : Addr} {n : Nat} {ns bs : List L3} {Q : VK} {E : XK} (en : TupT H p ns) (eb : TupT H r bs) (G : Good n ns bs) (q : ∀ H' x, Same H H' → H x = none → ProgAt C H' x n ns bs → Q (.ref x) H') :
    ∀ x dx, H x = none → H dx = none → dx ≠ x → spKeep C [.ref x, nV n, .ref p, .ref r] (upd (upd H dx (.own x)) x (.ins C dx [])) (fun v H2 => v = .non ∧ Q (.ref x) H2) E := by
  intro x dx nx ndx nex
  have s0 : Same H (upd (upd H dx (.own x)) x (.ins C dx [])) := fun b o e => by
    rw [upd_ne (ne_of_none e nx), upd_ne (ne_of_none e ndx)]
    exact e
  exact ⟨x, dx, p, r, n, ns, bs, rfl, upd_same, en.same s0, eb.same s0, G, fun H' PA k => ⟨rfl, q H' x (Same.made nx ndx k) nx PA⟩⟩
theorem scal_oV (a b : Option Nat) : scal (oV a) (oV b) = true := by
  cases a <;> cases b <;> rfl
end L2.Ac
namespace L2.Ac
open PySem PySem.Spec PyProof.Rows
open _root_.Ac
section
variable {P : Program} {w : World} {K : PySem.W.Frag} {mg : Str → Option Value} {base : Heap}
abbrev sLaw : Stmt := topS 42
abbrev nLaw : List Str := ["_law_script", "_law_pool_here", "_law_spec_here", "_law_program_here", "_law_lot", "_law_k", "_law_one", "_law_middle", "_law_other", "_law_far", "_law_least", "_law_near", "_law_on", "_law_link", "_law_tighter", "_law_plain", "_law_best", "_law_reader", "_law_rounds", "_law_j", "_law_before"]
theorem sc_law : FnScope nLaw ["_law_script"] (defScope sLaw) := ⟨rfl, rfl, rfl, by decide +kernel, rfl, by decide +kernel, by decide +kernel⟩
def spLaw (K : PySem.W.Frag) : Sp := fun vs H Q _ => ∃ (a : Addr) (ns : List Int), vs = [.ref a] ∧ SqL K H a (ns.map V.int) ∧ ns.length ≤ 63 ∧ ∀ H', Q (.bl true) H'
/-- what the frame of the law holds -/
def Sg (a q t x L : Addr) (z6 z14 z15 : Option V → Prop) (σ : L2.St) : Prop := ∃ y5 y6 y7 y8 y9 y10 y11 y12 y13 y14 y15 y16 y17 y18 : Option V, σ = [some (.ref a), some (.ref q), some (.ref t), some (.ref x), some (.ref L), y5, y6, y7, y8, y9, y10, y11, y12, y13, y14, y15, y16, y17, y18, none, none] ∧ z6 y6 ∧ z14 y14 ∧ z15 y15
abbrev any1 : Option V → Prop := fun _ => True
theorem KeepP.put {q c D : Addr} {H H' : Hp} {o : HO} (k : KeepP q c H H') (nD : H D = none) : KeepP q c H (upd H' D o) := fun b u n1 n2 e => by
  rw [upd_ne (ne_of_none e nD)]
  exact k b u n1 n2 e
theorem Pool.put {q c D : Addr} {H : Hp} {o : HO} (P : Pool H q c) (n : D ≠ q ∧ D ≠ c) : Pool (upd H D o) q c := by
  obtain ⟨z1, ⟨z2, z3, z4⟩, z5, z6⟩ := P
  exact ⟨z1, ⟨z2, z3, by rw [upd_ne n.1.symm]; exact z4⟩, z5, by rw [upd_ne n.2.symm]; exact z6⟩
theorem foldl_take2 {α β : Type} {f : β → α → β} {b : β} {xs : List α} {i : Nat} {x : α} (h : xs[i]? = some x) : (xs.take (i + 1)).foldl f b = f ((xs.take i).foldl f b) x := by
  rw [List.take_succ, h, List.foldl_append]
  rfl
theorem made_same {C x dx : Addr} {H : Hp} (nx : H x = none) (ndx : H dx = none) : Same H (upd (upd H dx (.own x)) x (.ins C dx [])) := fun b o e => by
  rw [upd_ne (ne_of_none e nx), upd_ne (ne_of_none e ndx)]
  exact e
theorem filter_take {α : Type} {p : α → Bool} {xs : List α} {i : Nat} {x : α} (h : xs[i]? = some x) : (xs.take (i + 1)).filter p = (xs.take i).filter p ++ (if p x = true then [x] else []) := by
  rw [List.take_succ, h, List.filter_append]
  congr 1
  show List.filter p [x] = _
  rw [List.filter_cons]
  rfl
theorem ok_law {f C f1 f2 f3 f4 f5 f6 f7 f8 f9 f10 fI : Addr} {fd fd1 fd2 fd3 fd4 fd5 fd6 fd7 fd8 fd9 fd10 fdI : FuncData} (F : Fun K "law" "law" sLaw f fd) (B : Bi mg) (T : PC K mg C) (D1 : Cal P w K mg base 1 "_law_pool" f1 fd1 ["_law_script"] (spPool K))
    (D2 : Cal P w K mg base 3 "_law_spec" f2 fd2 ["_law_pool_here", "_law_most"] spSpec) (D3 : Cal P w K mg base 7 "_law_program" f3 fd3 ["_law_spec_here"] (spProgram C)) (D4 : Cal P w K mg base 2 "_law_makers" f4 fd4 ["_law_spec_here"] spMakers)
    (D5 : Cal P w K mg base 1 "_law_draw" f5 fd5 ["_law_pool_here", "_law_many"] spDraw) (D6 : Cal P w K mg base 5 "distance" f6 fd6 ["program", "one", "other"] (spDistance C)) (D7 : Cal P w K mg base 5 "least_rounds" f7 fd7 ["program", "one", "other"] (spLeast C))
    (D8 : Cal P w K mg base 1 "_law_no_more" f8 fd8 ["_law_one", "_law_other"] spNoMore) (D9 : Cal P w K mg base 4 "distances" f9 fd9 ["program"] (spDistTab C)) (D10 : Cal P w K mg base 1 "_law_readers" f10 fd10 ["_law_spec_here", "_law_step"] spReaders)
    (M : Mk K C fI) (GI : FnOk P w K mg base CX0 5 fI fdI ["self", "steps", "needs", "befores"] (spKeep C)) (bI : Binds K fdI ["self", "steps", "needs", "befores"] []) : FnOk P w K mg base CX0 8 f fd ["_law_script"] (spLaw K) := by
  refine F.ok sc_law (fun vs H Q E h => ?_) (fun cdv A outer s H vs Q E hr h => ?_)
  · obtain ⟨a, ns, rfl, _⟩ := h
    rfl
  · obtain ⟨a, ns0, rfl, hS, hl, g⟩ := h
    have nd := sc_law.nd
    have hr1 : Room 1 _ := hr.mono (by decide)
    have hr2 : Room 2 _ := hr.mono (by decide)
    have hr3 : Room 3 _ := hr.mono (by decide)
    have hr4 : Room 4 _ := hr.mono (by decide)
    have hr5 : Room 5 _ := hr.mono (by decide)
    have hr6 : Room 6 _ := hr.mono (by decide)
    refine ⟨_, pss_cons (ps_set (i := 1) nd rfl (.inr rfl) (pcal D1 hr1 (pa_cons (pv 0) pa_nil)))
      (pss_cons (ps_set (i := 2) nd rfl (.inr rfl) (pcal D2 hr3 (pa_cons (pv 1) (pa_cons pe_int pa_nil))))
      (pss_cons (ps_set (i := 3) nd rfl (.inl rfl) (pcal D3 hr (pa_cons (pv 2) pa_nil)))
      (pss_cons (ps_set (i := 4) nd rfl (.inr rfl) (pcal D4 hr2 (pa_cons (pv 2) pa_nil)))
      (C8.pss_cut (ps_for PassesOwn.never rfl (pi_range1 (by rfl) B.range (pa_cons (pe_op op_mul pe_int (pe_callTy call_int1 (by rfl) B.int boot_int (pa_cons (pe_cmpR op_gt (pe_callB lenS (by rfl) B.len PySem.boot_len (pa_cons (pv 4) pa_nil)) pe_int (nomark _)) pa_nil))) pa_nil)) (pg_name (i := 5) nd rfl (Or.inl rfl))
        (pss_cons (ps_asg (pe_lc (own := [("_law_j", 19)]) (g := gName 19) (tt := tYes) (te := tOp (rIxL K) (tVar 4) (tCall spDraw [] E0 (tCons (tVar 1) (tCons (tCB (rLenS K) (tCons (tVar 4) tNil)) tNil)))) (by rfl) nd (pi_range1 (by rfl) B.range (pa_cons pe_int pa_nil)) (blkOk_by (N := nLaw) (sc := defScope sLaw) (by decide +kernel))
            (fun _ _ _ _ _ => pg_name (i := 19) nd rfl (Or.inl rfl)) (fun _ _ _ _ _ => pts_nil) (fun _ _ _ _ _ => pe_ix ix_list (pv 4) (pcal D5 hr1 (pa_cons (pv 1) (pa_cons (pe_callB lenS (by rfl) B.len PySem.boot_len (pa_cons (pv 4) pa_nil)) pa_nil))) (fun _ _ => rfl)))
          (pg_unl rfl (pgs_cons (pg_name (i := 6) nd rfl (Or.inl rfl)) (pgs_cons (pg_name (i := 7) nd rfl (Or.inl rfl)) (pgs_cons (pg_name (i := 8) nd rfl (Or.inl rfl)) pgs_nil)))))
        (pss_cons (ps_set (i := 9) nd rfl (.inl rfl) (pcal D6 hr5 (pa_cons (pv 3) (pa_cons (pv 6) (pa_cons (pv 8) pa_nil)))))
        (pss_cons (ps_set (i := 10) nd rfl (.inl rfl) (pcal D7 hr5 (pa_cons (pv 3) (pa_cons (pv 6) (pa_cons (pv 8) pa_nil)))))
        (C8.pss_cut (ps_if (PW.pt (pw_and (pt_cmpR op_notN (pv 9) pe_non (nomark _)) (pw_and1 (PW.pt (pw_or (pt_cmpR op_isN (pv 10) pe_non (nomark _)) (pw_or1 (pt_cmpR op_gt (pv 10) (pv 9) (nomark _)))))))) pss_never pss_nil)
        (pss_cons (ps_set (i := 11) nd rfl (.inl rfl) (pcal D6 hr5 (pa_cons (pv 3) (pa_cons (pv 6) (pa_cons (pv 7) pa_nil)))))
        (pss_cons (ps_set (i := 12) nd rfl (.inl rfl) (pcal D7 hr5 (pa_cons (pv 3) (pa_cons (pv 7) (pa_cons (pv 8) pa_nil)))))
        (pss_one (ps_if (PW.pt (pw_and (pt_cmpR op_notN (pv 11) pe_non (nomark _)) (pw_and (pt_cmpR op_notN (pv 12) pe_non (nomark _)) (pw_and1 (PW.pt (pw_or (pt_cmpR op_isN (pv 9) pe_non (nomark _)) (pw_or1 (pt_cmpR op_gt (pv 9) (pe_op op_add (pv 11) (pv 12)) (nomark _))))))))) pss_never pss_nil)))))))))
      (pss_cons (ps_set (i := 13) nd rfl (.inl rfl) (pe_tup (pa_cons (pcal D5 hr1 (pa_cons (pv 1) (pa_cons (pe_ix ix_tup (pv 2) pe_int (fun _ _ => rfl)) pa_nil))) (pa_cons (pcal D5 hr1 (pa_cons (pv 1) (pa_cons (pe_ix ix_tup (pv 2) pe_int (fun _ _ => rfl)) pa_nil))) (pa_cons (pe_op op_add pe_int (pcal D5 hr1 (pa_cons (pv 1) (pa_cons pe_int pa_nil)))) pa_nil)))))
      (C8.pss_cut (ps_if (PW.pt (pw_and (pt_cmpR (op_notTri (hu65 hr)) (pv 13) (pe_ix ix_tup (pv 2) pe_int (fun _ _ => rfl)) (by rfl)) (pw_and1 (pt_cmpR op_lt (pe_callB lenS (by rfl) B.len PySem.boot_len (pa_cons (pe_ix ix_tup (pv 2) pe_int (fun _ _ => rfl)) pa_nil)) pe_int (nomark _)))))
          (pss_cons (ps_set (i := 14) nd rfl (.inl rfl) (pe_make M GI hr6 (by rfl) T.g bI .nil pass0 (pa_cons (pe_ix ix_tup (pv 2) pe_int (fun _ _ => rfl)) (pa_cons (pe_ix ix_tup (pv 2) pe_int (fun _ _ => rfl)) (pa_cons (pe_op op_catTri (pe_ix ix_tup (pv 2) pe_int (fun _ _ => rfl)) (pe_tup (pa_cons (pv 13) pa_nil))) pa_nil)))))
          (pss_one (ps_for PassesOwn.never rfl (pi_list (pv 4)) (pg_name (i := 6) nd rfl (Or.inl rfl))
            (pss_one (ps_for PassesOwn.never rfl (pi_list (pv 4)) (pg_name (i := 8) nd rfl (Or.inl rfl))
              (pss_one (ps_if (pt_not (pt_val (pcal D8 hr1 (pa_cons (pcal D6 hr5 (pa_cons (pv 3) (pa_cons (pv 6) (pa_cons (pv 8) pa_nil)))) (pa_cons (pcal D6 hr5 (pa_cons (pv 14) (pa_cons (pv 6) (pa_cons (pv 8) pa_nil)))) pa_nil))))) pss_never pss_nil)))))))
          pss_nil)
      (pss_cons (ps_set (i := 15) nd rfl (.inl rfl) (pe_tup (pa_cons (pe_ix ix_tup (pv 2) pe_int (fun _ _ => rfl)) (pa_cons (pe_tup pa_nil) (pa_cons (pe_op op_catTri (pe_ix ix_tup (pv 2) pe_int (fun _ _ => rfl))
          (pe_callTy tupS (by rfl) B.tuple boot_tuple (pa_cons (pe_lc (own := [("_law_before", 20)]) (g := gName 20) (te := tVar 20) (tt := tTest (tOp (rNotTri K) (tVar 20) (tOp (rIxT K) (tVar 2) (tC (.int 1))))) (by rfl) nd (pi_tup (pe_ix ix_tup (pv 2) pe_int (fun _ _ => rfl))) (blkOk_by (N := nLaw) (sc := defScope sLaw) (by decide +kernel))
            (fun _ _ _ _ _ => pg_name (i := 20) nd rfl (Or.inl rfl)) (fun _ _ _ _ _ => pts_one (pt_cmpR (op_notTri (hu65 hr)) (pv 20) (pe_ix ix_tup (pv 2) pe_int (fun _ _ => rfl)) (by rfl))) (fun _ _ _ _ _ => pv 20)) pa_nil))) pa_nil)))))
      (pss_cons (ps_if (PW.pt (pw_or (pt_cmpR op_gt (pe_callB lenS (by rfl) B.len PySem.boot_len (pa_cons (pe_ix ix_tup (pv 15) pe_int (fun _ _ => rfl)) pa_nil)) pe_int (nomark _)) (pw_or1 (pt_cmpR op_eq (pe_callB lenS (by rfl) B.len PySem.boot_len (pa_cons (pv 4) pa_nil)) pe_int (nomark _)))))
          (pss_one (ps_ret pe_bl)) pss_nil)
      (pss_cons (ps_for PassesOwn.never rfl (pi_list (pv 4)) (pg_name (i := 6) nd rfl (Or.inl rfl))
        (pss_one (ps_for PassesOwn.never rfl (pi_list (pv 4)) (pg_name (i := 8) nd rfl (Or.inl rfl))
          (pss_cons (ps_set (i := 16) nd rfl (.inl rfl) pe_int)
          (pss_cons (ps_for PassesOwn.never rfl (pi_list (pcal D10 hr1 (pa_cons (pv 2) (pa_cons (pv 6) pa_nil)))) (pg_tup (n := 2) (by rfl) (pgs_cons (pg_name (i := 17) nd rfl (Or.inl rfl)) (pgs_cons (pg_name (i := 18) nd rfl (Or.inl rfl)) pgs_nil)))
            (pss_cons (ps_set (i := 10) nd rfl (.inl rfl) (pcal D7 hr5 (pa_cons (pe_make M GI hr6 (by rfl) T.g bI .nil pass0 (pa_cons (pe_ix ix_tup (pv 2) pe_int (fun _ _ => rfl)) (pa_cons (pe_tup pa_nil) (pa_cons (pe_ix ix_tup (pv 15) pe_int (fun _ _ => rfl)) pa_nil)))) (pa_cons (pv 17) (pa_cons (pv 8) pa_nil)))))
            (pss_one (ps_if (PW.pt (pw_or (pt_cmpR op_isN (pv 10) pe_non (nomark _)) (pw_or1 (pt_cmpR op_isN (pv 16) pe_non (nomark _)))))
              (pss_one (ps_set (i := 16) nd rfl (.inl rfl) pe_non))
              (pss_one (ps_set (i := 16) nd rfl (.inl rfl) (pe_callB (call_max2 rfl) (by rfl) B.max boot_max (pa_cons (pv 16) (pa_cons (pe_op op_add (pv 18) (pv 10)) pa_nil)))))))))
          (pss_one (ps_if (pt_cmpR op_ne (pcal D6 hr5 (pa_cons (pv 3) (pa_cons (pv 6) (pa_cons (pv 8) pa_nil)))) (pv 16) (nomark _)) pss_never pss_nil)))))))
      (pss_one (ps_ret (pe_cmpR op_eq (pe_callB lenS (by rfl) B.len PySem.boot_len (pa_cons (pcal D9 hr4 (pa_cons (pv 3) pa_nil)) pa_nil)) (pe_callB lenS (by rfl) B.len PySem.boot_len (pa_cons (pv 4) pa_nil)) (nomark _))))))))))))), ?_⟩
    -- the pool, the spec, the program, the makers
    refine ⟨.ref a, rfl, a, ns0, rfl, hS, hl, fun H1 q c s1 nq nc P1 => ?_⟩
    refine ⟨.ref q, rfl, q, c, rfl, P1, fun H2 t tn tb n ns bs P2 k2 et en eb G n8 ln lb => ?_⟩
    have hSp : SpecAt H2 t n ns bs := ⟨tn, tb, et, en, eb⟩
    refine ⟨.ref t, rfl, t, n, ns, bs, rfl, hSp, G, fun H3 x s3 nx PA3 => ?_⟩
    refine ⟨.ref t, rfl, t, n, ns, bs, rfl, hSp.same s3, by omega, by omega, fun H4 L s4 nL eL => ?_⟩
    have P3 := P2.same s3
    have neL := P3.qn nL
    have cx4 : Ctx C q c t x L n ns bs H4 := ⟨P3.same s4, (hSp.same s3).same s4, PA3.same s4, eL, neL⟩
    have et4 := s4 _ _ (s3 _ _ et)
    clear P1 P2 k2 et en eb hSp s3 PA3 s4 nL eL P3 nx
    have n1 := G.n1
    have lm : (mks n ns).length ≤ 12 := by
      unfold mks
      refine Nat.le_trans (List.length_filter_le _ _) ?_
      rw [List.length_range]
      exact G.n12
    -- eight times three makers
    refine ⟨fun σ' H' => Sg a q t x L any1 any1 any1 σ' ∧ Ctx C q c t x L n ns bs H', ?_, ?_⟩
    · refine ⟨.ref L, rfl, L, _, rfl, .inl (SqL.of cx4.lot), _, _, rfl, rfl, .inr ⟨_, rfl, _, _, rfl, rfl, .inl ⟨by decide, by decide⟩, _, rfl, ?_, ?_, for_range (lo := 0) (n := _) (fun i σ H' => Sg a q t x L any1 any1 any1 σ ∧ Ctx C q c t x L n ns bs H') ⟨⟨_, _, _, _, _, _, _, _, _, _, _, _, _, _, rfl, trivial, trivial, trivial⟩, cx4⟩ ?_ fun _ _ z => z⟩⟩
      · split <;> decide
      · split <;> decide
      · rintro i σ H5 hi ⟨⟨y5, y6, y7, y8, y9, y10, y11, y12, y13, y14, y15, y16, y17, y18, rfl, _, _, _⟩, cx5⟩
        have hm : 0 < ((mks n ns).map nV).length := by
          by_cases z : (0 : Int) < (((mks n ns).map nV).length : Nat)
          · omega
          · rw [decide_eq_false z] at hi
            exact absurd hi (Nat.not_lt_zero i)
        refine ⟨_, rfl, by decide, by decide, fun D nD => lc_range (lo := 0) (n := 3) (fun j H' => Pool H' q c ∧ KeepP q c H5 H' ∧ ∃ ms : List Nat, H' D = some (.lst (ms.map nV)) ∧ ms.length = j ∧ ∀ m, m ∈ ms → m ∈ mks n ns) ⟨cx5.pool.same (same_upd nD), .of (same_upd nD), [], upd_same, rfl, fun m h => by simp at h⟩ ?_ ?_⟩
        · rintro j H6 hj ⟨P6, k6, ms, eD, el, hms⟩
          have nDq := cx5.pool.qn nD
          have eL6 := k6 _ _ neL.1 neL.2 cx5.lot
          refine ⟨rfl, .ref L, rfl, .ref q, rfl, .ref L, rfl, L, _, rfl, .inl (SqL.of eL6), q, c, _, rfl, P6, hm, by rw [List.length_map]; omega, fun H7 d P7 k7 ld => ?_⟩
          obtain ⟨u, hd⟩ : ∃ u, (mks n ns)[d]? = some u := ⟨_, List.getElem?_eq_getElem (by rw [List.length_map] at ld; exact ld)⟩
          refine ⟨L, _, _, _, rfl, rfl, SqL.of (k7 _ _ neL.1 neL.2 eL6), atI_nat (at_nat hd), _, k7 _ _ nDq.1 nDq.2 eD, ?_, P7.put nDq, (k6.trans k7).put nD, ms ++ [u], ?_, ?_, ?_⟩
          · rw [List.length_map]
            exact small1000 (by omega)
          · rw [upd_same, List.map_append]
            rfl
          · rw [List.length_append, el]
            rfl
          · intro m hm'
            rcases List.mem_append.mp hm' with hm' | hm'
            · exact hms m hm'
            · rw [List.mem_singleton.mp hm']
              exact List.mem_of_getElem? hd
        · rintro H6 ⟨P6, k6, ms, eD, el, hms⟩
          match ms, el, hms, eD with
          | [u1, u2, u3], _, hms, eD =>
          have hu1 := hms u1 (by simp)
          have hu2 := hms u2 (by simp)
          have hu3 := hms u3 (by simp)
          have lt1 := (mem_mks.mp hu1).1
          have lt2 := (mem_mks.mp hu2).1
          have lt3 := (mem_mks.mp hu3).1
          have cx6 := cx5.keep n1 P6 k6
          clear hms P6 k6
          refine ⟨D, _, rfl, SqL.of eD, rfl, nV u1, _, rfl, nV u2, _, rfl, nV u3, _, rfl, rfl, ?_⟩
          refine ⟨.ref x, rfl, nV u1, rfl, nV u3, rfl, x, n, u1, u3, ns, bs, rfl, cx6.prog, G, hu1, hu3, fun H7 s7 => ?_⟩
          refine ⟨.ref x, rfl, nV u1, rfl, nV u3, rfl, x, n, u1, u3, ns, bs, rfl, (cx6.same s7).prog, G, lt1, lt3, fun H8 s8 => ?_⟩
          have cx8 := (cx6.same s7).same s8
          clear cx6 s7 s8 eD nD
          refine ⟨fun σ' H' => σ' = [some (.ref a), some (.ref q), some (.ref t), some (.ref x), some (.ref L), some (.int (0 + (i : Int))), some (nV u1), some (nV u2), some (nV u3), some (oV (ds ns bs u1 u3)), some (oV (lr (ns ++ bs) u1 u3)), y11, y12, y13, y14, y15, y16, y17, y18, none, none] ∧ H' = H8, ?_, ?_⟩
          · cases e : ds ns bs u1 u3 with
            | none => exact ⟨.non, rfl, rfl, false, rfl, rfl, rfl⟩
            | some d =>
              obtain ⟨t', e2, le⟩ := ask_least (mks_some hu1) e
              rw [e2]
              refine ⟨nV d, rfl, rfl, true, rfl, nV t', rfl, rfl, false, rfl, nV t', rfl, nV d, rfl, _, _, rfl, rfl, _, rfl, ?_⟩
              rw [decide_eq_false (show ¬ ((d : Int) < (t' : Int)) by omega)]
              exact ⟨rfl, rfl⟩
          · rintro σ' H' ⟨rfl, rfl⟩
            refine ⟨.ref x, rfl, nV u1, rfl, nV u2, rfl, x, n, u1, u2, ns, bs, rfl, cx8.prog, G, hu1, hu2, fun H9 s9 => ?_⟩
            refine ⟨.ref x, rfl, nV u2, rfl, nV u3, rfl, x, n, u2, u3, ns, bs, rfl, (cx8.same s9).prog, G, lt2, lt3, fun H10 s10 => ?_⟩
            have cx10 := (cx8.same s9).same s10
            cases e : ds ns bs u1 u2 with
            | none => exact ⟨.non, rfl, rfl, false, rfl, ⟨_, _, _, _, _, _, _, _, _, _, _, _, _, _, rfl, trivial, trivial, trivial⟩, cx10⟩
            | some d =>
              cases e2 : lr (ns ++ bs) u2 u3 with
              | none => exact ⟨nV d, rfl, rfl, true, rfl, .non, rfl, rfl, false, rfl, ⟨_, _, _, _, _, _, _, _, _, _, _, _, _, _, rfl, trivial, trivial, trivial⟩, cx10⟩
              | some o =>
                obtain ⟨fa, e3, le⟩ := ask_third e e2
                rw [e3]
                refine ⟨nV d, rfl, rfl, true, rfl, nV o, rfl, rfl, true, rfl, nV fa, rfl, rfl, false, rfl, nV fa, rfl, nV d, rfl, nV o, rfl, _, _, rfl, rfl, _, _, rfl, rfl, _, rfl, ?_⟩
                rw [decide_eq_false (show ¬ ((d : Int) + (o : Int) < (fa : Int)) by omega)]
                exact ⟨⟨_, _, _, _, _, _, _, _, _, _, _, _, _, _, rfl, trivial, trivial, trivial⟩, cx10⟩
    · rintro σ H5 ⟨⟨y5, y6, y7, y8, y9, y10, y11, y12, y13, y14, y15, y16, y17, y18, rfl, _, _, _⟩, cx5⟩
      obtain ⟨tn, tb, et, en, eb⟩ := cx5.spec
      have hT := SqT.of (K := K) et
      have mkAt : ∀ {i : Nat} {y : V}, ((mks n ns).map nV)[i]? = some y → ∃ u, u ∈ mks n ns ∧ y = nV u := fun {i y} h => by
        obtain ⟨k, h1, h2⟩ := nat_at h
        exact ⟨k, List.mem_of_getElem? h1, h2⟩
      -- the link
      refine ⟨.ref q, rfl, .ref t, rfl, t, _, 0, nV n, rfl, rfl, hT, atI_nat (j := 0) rfl, q, c, n, rfl, cx5.pool, by omega, by omega, fun H6 d1 P6 k6 l1 => ?_⟩
      refine ⟨.ref q, rfl, .ref t, rfl, t, _, 0, nV n, rfl, rfl, SqT.of (k6.tup cx5.pool et), atI_nat (j := 0) rfl, q, c, n, rfl, P6, by omega, by omega, fun H7 d2 P7 k7 l2 => ?_⟩
      refine ⟨.ref q, rfl, q, c, 6, rfl, P7, by decide, by decide, fun H8 d3 P8 k8 l3 => ⟨_, _, rfl, rfl, (by show 3 ≤ sizeLine; decide), fun lk nlk => ?_⟩⟩
      dsimp only
      rw [show (1 : Int) + (d3 : Int) = ((1 + d3 : Nat) : Int) by omega]
      have slk := same_upd (o := .tup [nV d1, nV d2, nV (1 + d3)]) nlk
      have tlk : Tri (upd H8 lk (.tup [nV d1, nV d2, nV (1 + d3)])) lk (d1, d2, 1 + d3) := upd_same
      have cx9 := (cx5.keep n1 P8 (k6.trans (k7.trans k8))).same slk
      clear P6 P7 P8 k6 k7 k8 slk nlk cx5 et en eb hT
      generalize upd H8 lk (.tup [nV d1, nV d2, nV (1 + d3)]) = H9 at cx9 tlk
      obtain ⟨tn, tb, et, en, eb⟩ := cx9.spec
      have hT := SqT.of (K := K) et
      have L40 : bs.length < 40 := by omega
      -- one before more
      refine ⟨fun σ' H' => Sg a q t x L any1 any1 any1 σ' ∧ Ctx C q c t x L n ns bs H', ?_, ?_⟩
      · obtain ⟨as, ea, TA⟩ := id eb
        refine ⟨.ref lk, rfl, .ref t, rfl, t, _, 2, .ref tb, rfl, rfl, hT, atI_nat (j := 2) rfl, lk, tb, _, as, bs, rfl, rfl, tlk, .inr (SqT.of ea), TA, _, rfl, ?_⟩
        by_cases cl : (d1, d2, 1 + d3) ∈ bs
        · rw [decide_eq_true cl]
          exact ⟨⟨_, _, _, _, _, _, _, _, _, _, _, _, _, _, rfl, trivial, trivial, trivial⟩, cx9⟩
        · rw [decide_eq_false cl]
          refine ⟨.ref t, rfl, t, _, 2, .ref tb, rfl, rfl, hT, atI_nat (j := 2) rfl, tb, _, rfl, .inr (SqT.of ea), _, _, rfl, rfl, _, rfl, ?_⟩
          rw [List.length_map, TA.len, decide_eq_true (show ((bs.length : Nat) : Int) < 40 by omega)]
          have G2 : Good n ns (bs ++ [(d1, d2, 1 + d3)]) := G.more l1 l2 (by show 1 + d3 ≤ 6; omega) (by show 1 ≤ 1 + d3; omega) cl L40
          refine ⟨.ref t, rfl, t, _, 0, nV n, rfl, rfl, hT, atI_nat (j := 0) rfl, .ref t, rfl, t, _, 1, .ref tn, rfl, rfl, hT, atI_nat (j := 1) rfl, .ref t, rfl, t, _, 2, .ref tb, rfl, rfl, hT, atI_nat (j := 2) rfl, .ref lk, rfl, (by show 1 ≤ sizeLine; decide), fun u nu => ?_⟩
          have su := same_upd (o := .tup [.ref lk]) nu
          refine ⟨tb, u, bs, [(d1, d2, 1 + d3)], rfl, rfl, eb.same su, ⟨[lk], upd_same, Each.cons (tlk.same su) Each.nil⟩, by omega, by show 1 ≤ 100; decide, fun H10 p s10 hp => ?_⟩
          have s910 := su.trans s10
          refine fun x2 dx2 nx2 ndx2 _ => ⟨x2, dx2, tn, p, n, ns, _, rfl, upd_same, (en.same s910).same (made_same nx2 ndx2), hp.same (made_same nx2 ndx2), G2, fun H11 PA2 k11 => ⟨rfl, ?_⟩⟩
          have s11 := Same.made nx2 ndx2 k11
          have cx11 := (cx9.same s910).same s11
          clear su s10 s910 s11 hp nu nx2 ndx2 k11
          refine ⟨.ref L, rfl, L, rfl, ⟨_, SqL.of cx11.lot⟩, for_list (K := K) (a := L) (xs := (mks n ns).map nV) (fun i σ H' => Sg a q t x L any1 (· = some (.ref x2)) any1 σ ∧ Same H11 H') ⟨⟨_, _, _, _, _, _, _, _, _, _, _, _, _, _, rfl, trivial, rfl, trivial⟩, .refl _⟩ (fun i σ H' _ z => SqL.of (z.2 _ _ cx11.lot)) ?_ ?_⟩
          · rintro i y σ H12 hy ⟨⟨y5, y6, y7, y8, y9, y10, y11, y12, y13, y14, y15, y16, y17, y18, rfl, _, rfl, _⟩, s12⟩
            obtain ⟨u1, hu1, rfl⟩ := mkAt hy
            refine ⟨.ref L, rfl, L, rfl, ⟨_, SqL.of (s12 _ _ cx11.lot)⟩, for_list (K := K) (a := L) (xs := (mks n ns).map nV) (fun i σ H' => Sg a q t x L (· = some (nV u1)) (· = some (.ref x2)) any1 σ ∧ Same H11 H') ⟨⟨_, _, _, _, _, _, _, _, _, _, _, _, _, _, rfl, rfl, rfl, trivial⟩, s12⟩ (fun i σ H' _ z => SqL.of (z.2 _ _ cx11.lot)) ?_ ?_⟩
            · rintro i2 y σ H13 hy ⟨⟨y5, y6, y7, y8, y9, y10, y11, y12, y13, y14, y15, y16, y17, y18, rfl, rfl, rfl, _⟩, s13⟩
              obtain ⟨u3, hu3, rfl⟩ := mkAt hy
              refine ⟨.ref x, rfl, nV u1, rfl, nV u3, rfl, x, n, u1, u3, ns, bs, rfl, cx11.prog.same s13, G, hu1, hu3, fun H14 s14 => ?_⟩
              refine ⟨.ref x2, rfl, nV u1, rfl, nV u3, rfl, x2, n, u1, u3, ns, _, rfl, PA2.same (s13.trans s14), G2, hu1, hu3, fun H15 s15 => ?_⟩
              exact ⟨_, _, rfl, fun d hd => ask_more hd, true, rfl, ⟨_, _, _, _, _, _, _, _, _, _, _, _, _, _, rfl, rfl, rfl, trivial⟩, (s13.trans s14).trans s15⟩
            · rintro σ H13 ⟨⟨y5, y6, y7, y8, y9, y10, y11, y12, y13, y14, y15, y16, y17, y18, rfl, rfl, rfl, _⟩, s13⟩
              exact ⟨⟨_, _, _, _, _, _, _, _, _, _, _, _, _, _, rfl, trivial, rfl, trivial⟩, s13⟩
          · rintro σ H12 ⟨⟨y5, y6, y7, y8, y9, y10, y11, y12, y13, y14, y15, y16, y17, y18, rfl, _, rfl, _⟩, s12⟩
            exact ⟨⟨_, _, _, _, _, _, _, _, _, _, _, _, _, _, rfl, trivial, trivial, trivial⟩, cx11.same s12⟩
      · clear tlk et en eb hT cx9
        rintro σ H10 ⟨⟨y5, y6, y7, y8, y9, y10, y11, y12, y13, y14, y15, y16, y17, y18, rfl, _, _, _⟩, cx10⟩
        obtain ⟨tn, tb, et, en, eb⟩ := cx10.spec
        have hT := SqT.of (K := K) et
        obtain ⟨asn, ean, TN⟩ := id en
        obtain ⟨asb, eab, TB⟩ := id eb
        -- the same links with no needs
        refine ⟨.ref t, rfl, t, _, 0, nV n, rfl, rfl, hT, atI_nat (j := 0) rfl, Nat.zero_le _, fun e0 ne0 => ?_⟩
        have s0 := same_upd (o := .tup []) ne0
        have ee : (upd H10 e0 (.tup [])) e0 = some (.tup []) := upd_same
        generalize upd H10 e0 (.tup []) = H11 at s0 ee
        refine ⟨.ref t, rfl, t, _, 1, .ref tn, rfl, rfl, SqT.of (s0 _ _ et), atI_nat (j := 1) rfl, .ref t, rfl, t, _, 2, .ref tb, rfl, rfl, SqT.of (s0 _ _ et), atI_nat (j := 2) rfl, tb, rfl, ⟨_, SqT.of (s0 _ _ eab)⟩,
          fun D nD => lc_tup (K := K) (a := tb) (xs := asb.map V.ref) (fun i H' => Same H11 H' ∧ ∃ cs : List Addr, H' D = some (.lst (cs.map V.ref)) ∧ Tris H' cs ((bs.take i).filter fun l => !decide (l ∈ ns))) ⟨same_upd nD, [], upd_same, by rw [List.take_zero]; exact Each.nil⟩ (fun i H' _ z => SqT.of (z.1 _ _ (s0 _ _ eab))) ?_ ?_⟩
        · rintro i y H12 hy ⟨s12, cs, eD, TC⟩
          obtain ⟨b, hb, rfl⟩ := ref_at hy
          obtain ⟨l, hl', tl⟩ := TB.at_ i b hb
          have s012 := s0.trans s12
          refine ⟨rfl, .ref b, rfl, .ref t, rfl, t, _, 1, .ref tn, rfl, rfl, SqT.of (s012 _ _ et), atI_nat (j := 1) rfl, b, tn, l, asn, ns, rfl, rfl, tl.same s012, .inr (SqT.of (s012 _ _ ean)), TN.same s012, _, rfl, ?_⟩
          rw [filter_take hl']
          have hi := (List.getElem?_eq_some_iff.mp hl').1
          refine ite2 (fun z => ?_) (fun z => ?_)
          · rw [if_pos z]
            refine ⟨_, rfl, _, eD, ?_, same_put nD s12, cs ++ [b], ?_, ?_⟩
            · rw [List.length_map, TC.len]
              refine small1000 (Nat.le_trans (List.length_filter_le _ _) ?_)
              rw [List.length_take]
              omega
            · rw [upd_same, List.map_append]
              rfl
            · refine (TC.mono fun d m z => ?_).snoc ?_
              · show (upd _ D _) d = _
                rw [upd_ne (ne_of z eD (fun z => nomatch z))]
                exact z
              · show (upd _ D _) b = _
                rw [upd_ne (ne_of_none (s0 _ _ tl) nD)]
                exact s012 _ _ tl
          · rw [if_neg z, List.append_nil]
            exact ⟨s12, cs, eD, TC⟩
        · rintro H12 ⟨s12, cs, eD, TC⟩
          rw [List.length_map, TB.len, List.take_of_length_le (Nat.le_refl _)] at TC
          refine ⟨D, _, rfl, .inl ⟨SqL.of eD, fun u nu => ?_⟩⟩
          have su := (s0.trans s12).trans (same_upd (o := .tup (cs.map V.ref)) nu)
          refine ⟨tn, u, ns, _, rfl, rfl, en.same su, ⟨cs, upd_same, TC.same (same_upd nu)⟩, by omega, Nat.le_trans (List.length_filter_le _ _) (by omega), fun H13 p s13 hp => ⟨(by show 3 ≤ sizeLine; decide), fun pl npl => ?_⟩⟩
          have hp : TupT H13 p (plain ns bs) := hp
          have sp := same_upd (o := .tup [nV n, .ref e0, .ref p]) npl
          have cx14 := (cx10.same (su.trans s13)).same sp
          have ee14 := sp _ _ (s13 _ _ ((same_upd nu) _ _ (s12 _ _ ee)))
          have ep : (upd H13 pl (.tup [nV n, .ref e0, .ref p])) pl = some (.tup [nV n, .ref e0, .ref p]) := upd_same
          have hp := hp.same sp
          generalize upd H13 pl (.tup [nV n, .ref e0, .ref p]) = H14 at cx14 ee14 ep hp
          clear su sp s13 s12 eD TC nD ee s0 ne0 nu npl et en eb hT cx10 ean eab TN TB
          obtain ⟨tn, tb, et, en, eb⟩ := cx14.spec
          obtain ⟨asp, eap, TP⟩ := id hp
          -- the ends
          refine ⟨.ref pl, rfl, pl, _, 2, .ref p, rfl, rfl, SqT.of ep, atI_nat (j := 2) rfl, p, _, rfl, .inr (SqT.of eap), _, _, rfl, rfl, _, rfl, ite2 (fun _ => g _) (fun z => ?_)⟩
          have lp : (plain ns bs).length ≤ 40 := by
            by_cases y : (40 : Int) < ((asp.map V.ref).length : Nat)
            · exact absurd (decide_eq_true y) z
            · rw [List.length_map, TP.len] at y
              omega
          have G3 := G.plain lp
          refine ⟨.ref L, rfl, L, _, rfl, .inl (SqL.of cx14.lot), rfl, _, rfl, ite2 (fun _ => g _) (fun _ => ?_)⟩
          -- the distance from the readers
          refine ⟨.ref L, rfl, L, rfl, ⟨_, SqL.of cx14.lot⟩, for_list (K := K) (a := L) (xs := (mks n ns).map nV) (fun i σ H' => Sg a q t x L any1 any1 (· = some (.ref pl)) σ ∧ Same H14 H') ⟨⟨_, _, _, _, _, _, _, _, _, _, _, _, _, _, rfl, trivial, trivial, rfl⟩, .refl _⟩ (fun i σ H' _ z => SqL.of (z.2 _ _ cx14.lot)) ?_ ?_⟩
          · rintro i y σ H15 hy ⟨⟨y5, y6, y7, y8, y9, y10, y11, y12, y13, y14, y15, y16, y17, y18, rfl, _, _, rfl⟩, s15⟩
            obtain ⟨u1, hu1, rfl⟩ := mkAt hy
            refine ⟨.ref L, rfl, L, rfl, ⟨_, SqL.of (s15 _ _ cx14.lot)⟩, for_list (K := K) (a := L) (xs := (mks n ns).map nV) (fun i σ H' => Sg a q t x L (· = some (nV u1)) any1 (· = some (.ref pl)) σ ∧ Same H14 H') ⟨⟨_, _, _, _, _, _, _, _, _, _, _, _, _, _, rfl, rfl, trivial, rfl⟩, s15⟩ (fun i σ H' _ z => SqL.of (z.2 _ _ cx14.lot)) ?_ ?_⟩
            · rintro i2 y σ H16 hy ⟨⟨y5, y6, y7, y8, y9, y10, y11, y12, y13, y14, y15, y16, y17, y18, rfl, rfl, _, rfl⟩, s16⟩
              obtain ⟨u3, hu3, rfl⟩ := mkAt hy
              have lt3 := (mem_mks.mp hu3).1
              refine ⟨.ref t, rfl, nV u1, rfl, t, n, u1, ns, bs, rfl, cx14.spec.same s16, by omega, fun H17 rd ps s17 nrd ⟨cs, erd, EC⟩ hperm => ?_⟩
              have s1417 := s16.trans s17
              have okp : ∀ r, r ∈ ps → r.1 < n := fun r hr => (G.okn _ (mem_rds.mp (hperm.mem_iff.mp hr))).2.1
              refine ⟨rd, rfl, ⟨_, SqL.of erd⟩, for_list (K := K) (a := rd) (xs := cs.map V.ref) (fun j σ H' => (∃ y5 y7 y9 y10 y11 y12 y13 y14 y17 y18 : Option V, σ = [some (.ref a), some (.ref q), some (.ref t), some (.ref x), some (.ref L), y5, some (nV u1), y7, some (nV u3), y9, y10, y11, y12, y13, y14, some (.ref pl), some (oV ((ps.take j).foldl (dstep fun s => lr ([] ++ plain ns bs) s u3) (some 0))), y17, y18, none, none]) ∧ Same H17 H')
                ⟨⟨_, _, _, _, _, _, _, _, _, _, rfl⟩, .refl _⟩ (fun j σ H' _ z => SqL.of (z.2 _ _ erd)) ?_ ?_⟩
              · rintro j y σ H18 hy ⟨⟨y5, y7, y9, y10, y11, y12, y13, y14, y17, y18, rfl⟩, s18⟩
                obtain ⟨b, hb, rfl⟩ := ref_at hy
                obtain ⟨r, hr', tr⟩ := EC.at_ j b hb
                have ltr := okp r (List.mem_of_getElem? hr')
                have sA := s1417.trans s18
                rw [foldl_take2 hr']
                generalize (ps.take j).foldl (dstep fun s => lr ([] ++ plain ns bs) s u3) (some 0) = acc
                refine ⟨b, _, rfl, SqT.of (s18 _ _ tr), rfl, nV r.1, _, rfl, nV r.2, _, rfl, rfl, ?_⟩
                refine ⟨.ref t, rfl, t, _, 0, nV n, rfl, rfl, SqT.of (sA _ _ et), atI_nat (j := 0) rfl, Nat.zero_le _, fun e1 ne1 => ?_⟩
                have s1 := same_upd (o := .tup []) ne1
                have sB := sA.trans s1
                refine ⟨.ref pl, rfl, pl, _, 2, .ref p, rfl, rfl, SqT.of (sB _ _ ep), atI_nat (j := 2) rfl, ?_⟩
                refine fun x3 dx3 nx3 ndx3 _ => ⟨x3, dx3, e1, p, n, [], _, rfl, upd_same, TupT.same ⟨[], upd_same, Each.nil⟩ (made_same nx3 ndx3), (hp.same sB).same (made_same nx3 ndx3), G3, fun H19 PA3 k19 => ⟨rfl, ?_⟩⟩
                have s19 := Same.made nx3 ndx3 k19
                refine ⟨nV r.1, rfl, nV u3, rfl, x3, n, r.1, u3, [], plain ns bs, rfl, PA3, G3, ltr, lt3, fun H20 s20 => ?_⟩
                have sC := (s18.trans (s1.trans s19)).trans s20
                clear PA3 nx3 ndx3 k19 s19 s20 s1 sB ne1 sA
                cases e : lr ([] ++ plain ns bs) r.1 u3 with
                | none =>
                  have ed : dstep (fun s => lr ([] ++ plain ns bs) s u3) acc r = none := by
                    unfold dstep
                    dsimp only
                    rw [e]
                    cases acc <;> rfl
                  rw [ed]
                  exact ⟨.non, rfl, rfl, true, rfl, ⟨_, _, _, _, _, _, _, _, _, _, rfl⟩, sC⟩
                | some d =>
                  cases acc with
                  | none =>
                    rw [dstep_none]
                    exact ⟨nV d, rfl, rfl, false, rfl, .non, rfl, rfl, true, rfl, ⟨_, _, _, _, _, _, _, _, _, _, rfl⟩, sC⟩
                  | some m =>
                    have ed : dstep (fun s => lr ([] ++ plain ns bs) s u3) (some m) r = some (max m (r.2 + d)) := by
                      unfold dstep
                      dsimp only
                      rw [e]
                    rw [ed]
                    refine ⟨nV d, rfl, rfl, false, rfl, nV m, rfl, rfl, false, rfl, nV m, rfl, nV r.2, rfl, nV d, rfl, _, _, rfl, rfl, _, _, rfl, ?_⟩
                    have em : (if (r.2 : Int) + (d : Int) > (m : Int) then (r.2 : Int) + (d : Int) else (m : Int)) = ((max m (r.2 + d) : Nat) : Int) := by
                      split <;> omega
                    rw [em]
                    exact ⟨⟨_, _, _, _, _, _, _, _, _, _, rfl⟩, sC⟩
              · rintro σ H18 ⟨⟨y5, y7, y9, y10, y11, y12, y13, y14, y17, y18, rfl⟩, s18⟩
                rw [List.length_map, EC.len, List.take_of_length_le (Nat.le_refl _)]
                have ed : ps.foldl (dstep fun s => lr ([] ++ plain ns bs) s u3) (some 0) = ds ns bs u1 u3 := by
                  rw [← ask_plain u1 u3]
                  exact dist_perm fun r => hperm.mem_iff
                rw [ed]
                have sA := s1417.trans s18
                refine ⟨.ref x, rfl, nV u1, rfl, nV u3, rfl, x, n, u1, u3, ns, bs, rfl, cx14.prog.same sA, G, hu1, hu3, fun H19 s19 => ⟨_, rfl, scal_oV _ _, _, rfl, ?_⟩⟩
                rw [decide_eq_true (rfl : oV (ds ns bs u1 u3) = oV (ds ns bs u1 u3))]
                exact ⟨⟨_, _, _, _, _, _, _, _, _, _, _, _, _, _, rfl, rfl, trivial, rfl⟩, sA.trans s19⟩
            · rintro σ H16 ⟨⟨y5, y6, y7, y8, y9, y10, y11, y12, y13, y14, y15, y16, y17, y18, rfl, rfl, _, rfl⟩, s16⟩
              exact ⟨⟨_, _, _, _, _, _, _, _, _, _, _, _, _, _, rfl, trivial, trivial, rfl⟩, s16⟩
          · rintro σ H15 ⟨⟨y5, y6, y7, y8, y9, y10, y11, y12, y13, y14, y15, y16, y17, y18, rfl, _, _, rfl⟩, s15⟩
            refine ⟨.ref x, rfl, x, n, ns, bs, rfl, cx14.prog.same s15, G, fun H16 tt xs s16 ett elx => ?_⟩
            refine ⟨tt, xs, rfl, .inr (SqT.of ett), .ref L, rfl, L, _, rfl, .inl (SqL.of (s16 _ _ (s15 _ _ cx14.lot))), rfl, ?_⟩
            rw [decide_eq_true (show V.int (xs.length : Nat) = V.int (((mks n ns).map nV).length : Nat) by rw [elx, List.length_map])]
            exact g _
end
end L2.Ac
namespace L2.Ac
open PySem PySem.Spec PyProof.Rows
open _root_.Ac
/-- what the top has written, gathered -/
theorem all_mk {l : PySem.W.OpenLaw} {w : World} {K : PySem.W.Frag} {h : Heap} {mg : Str → Option Value} {fa C f1 f2 f3 f4 f5 f6 f7 f8 f9 f10 f11 f12 f13 f14 f15 f16 f17 f18 f19 f20 f21 f22 f23 f24 f25 f26 f27 f28 f29 : Addr} (X : K.In h) (G : h.Ns mainGlobals mg) (hfa : mg "law" = some (.ref fa))
    {od1 an1 od2 an2 od3 an3 od4 an4 od5 an5 od6 an6 od7 an7 od8 an8 od9 an9 od10 an10 od11 an11 od12 an12 od13 an13 od14 an14 od15 an15 od16 an16 od17 an17 od18 an18 od19 an19 od20 an20 od21 an21 od22 an22 od23 an23 od24 an24 od25 an25 od26 an26 od27 an27 od28 an28 od29 an29 : Option Addr} {sl1 sl2 sl3 sl4 sl5 sl6 sl7 sl8 sl9 sl10 sl11 sl12 sl13 sl14 sl15 sl16 sl17 sl18 sl19 sl20 sl21 sl22 sl23 sl24 sl25 sl26 sl27 sl28 sl29 : Array (Option Value)} {oc1 kV1 dc1 pm1 cd1 ct1 oc2 kV2 dc2 pm2 cd2 ct2 oc3 kV3 dc3 pm3 cd3 ct3 oc4 kV4 dc4 pm4 cd4 ct4 oc5 kV5 dc5 pm5 cd5 ct5 oc6 kV6 dc6 pm6 cd6 ct6 oc7 kV7 dc7 pm7 cd7 ct7 oc8 kV8 dc8 pm8 cd8 ct8 oc9 kV9 dc9 pm9 cd9 ct9 oc10 kV10 dc10 pm10 cd10 ct10 oc11 kV11 dc11 pm11 cd11 ct11 oc12 kV12 dc12 pm12 cd12 ct12 oc13 kV13 dc13 pm13 cd13 ct13 oc14 kV14 dc14 pm14 cd14 ct14 oc15 kV15 dc15 pm15 cd15 ct15 oc16 kV16 dc16 pm16 cd16 ct16 oc17 kV17 dc17 pm17 cd17 ct17 oc18 kV18 dc18 pm18 cd18 ct18 oc19 kV19 dc19 pm19 cd19 ct19 oc20 kV20 dc20 pm20 cd20 ct20 oc21 kV21 dc21 pm21 cd21 ct21 oc22 kV22 dc22 pm22 cd22 ct22 oc23 kV23 dc23 pm23 cd23 ct23 oc24 kV24 dc24 pm24 cd24 ct24 oc25 kV25 dc25 pm25 cd25 ct25 oc26 kV26 dc26 pm26 cd26 ct26 oc27 kV27 dc27 pm27 cd27 ct27 oc28 kV28 dc28 pm28 cd28 ct28 oc29 kV29 dc29 pm29 cd29 ct29 : Value} {tS tL tR : Tok}
    (a1 : PySem.W.nsIn K mainGlobals "is_integer" = some (some (.ref f1))) (l1 : K.lookup f1 = some ⟨oc1, od1, .func (PySem.W.fnOf "is_integer" "is_integer" (defArgs sIsInteger) (defBody sIsInteger) (defScope sIsInteger) .none kV1 dc1 pm1 an1 cd1 ct1), sl1⟩) (c1 : PySem.W.codeIn K cd1 "is_integer" = true) (k1 : PySem.W.keepIn K (.ref f1) = true)
    (a2 : PySem.W.nsIn K mainGlobals "is_within" = some (some (.ref f2))) (l2 : K.lookup f2 = some ⟨oc2, od2, .func (PySem.W.fnOf "is_within" "is_within" (defArgs sIsWithin) (defBody sIsWithin) (defScope sIsWithin) .none kV2 dc2 pm2 an2 cd2 ct2), sl2⟩) (c2 : PySem.W.codeIn K cd2 "is_within" = true) (k2 : PySem.W.keepIn K (.ref f2) = true)
    (a3 : PySem.W.nsIn K mainGlobals "is_triple" = some (some (.ref f3))) (l3 : K.lookup f3 = some ⟨oc3, od3, .func (PySem.W.fnOf "is_triple" "is_triple" (defArgs sIsTriple) (defBody sIsTriple) (defScope sIsTriple) .none kV3 dc3 pm3 an3 cd3 ct3), sl3⟩) (c3 : PySem.W.codeIn K cd3 "is_triple" = true) (k3 : PySem.W.keepIn K (.ref f3) = true)
    (a4 : PySem.W.nsIn K mainGlobals "are_triples" = some (some (.ref f4))) (l4 : K.lookup f4 = some ⟨oc4, od4, .func (PySem.W.fnOf "are_triples" "are_triples" (defArgs sAreTriples) (defBody sAreTriples) (defScope sAreTriples) .none kV4 dc4 pm4 an4 cd4 ct4), sl4⟩) (c4 : PySem.W.codeIn K cd4 "are_triples" = true) (k4 : PySem.W.keepIn K (.ref f4) = true)
    (a5 : PySem.W.nsIn K mainGlobals "links_of" = some (some (.ref f5))) (l5 : K.lookup f5 = some ⟨oc5, od5, .func (PySem.W.fnOf "links_of" "links_of" (defArgs sLinksOf) (defBody sLinksOf) (defScope sLinksOf) .none kV5 dc5 pm5 an5 cd5 ct5), sl5⟩) (c5 : PySem.W.codeIn K cd5 "links_of" = true) (k5 : PySem.W.keepIn K (.ref f5) = true)
    (a6 : PySem.W.nsIn K mainGlobals "idle_ring" = some (some (.ref f6))) (l6 : K.lookup f6 = some ⟨oc6, od6, .func (PySem.W.fnOf "idle_ring" "idle_ring" (defArgs sIdleRing) (defBody sIdleRing) (defScope sIdleRing) .none kV6 dc6 pm6 an6 cd6 ct6), sl6⟩) (c6 : PySem.W.codeIn K cd6 "idle_ring" = true) (k6 : PySem.W.keepIn K (.ref f6) = true)
    (a7 : PySem.W.nsIn K mainGlobals "is_step" = some (some (.ref f7))) (l7 : K.lookup f7 = some ⟨oc7, od7, .func (PySem.W.fnOf "is_step" "is_step" (defArgs sIsStep) (defBody sIsStep) (defScope sIsStep) .none kV7 dc7 pm7 an7 cd7 ct7), sl7⟩) (c7 : PySem.W.codeIn K cd7 "is_step" = true) (k7 : PySem.W.keepIn K (.ref f7) = true)
    (a8 : PySem.W.nsIn K mainGlobals "check_step" = some (some (.ref f8))) (l8 : K.lookup f8 = some ⟨oc8, od8, .func (PySem.W.fnOf "check_step" "check_step" (defArgs sCheckStep) (defBody sCheckStep) (defScope sCheckStep) .none kV8 dc8 pm8 an8 cd8 ct8), sl8⟩) (c8 : PySem.W.codeIn K cd8 "check_step" = true) (k8 : PySem.W.keepIn K (.ref f8) = true)
    (a9 : PySem.W.nsIn K mainGlobals "check_maker" = some (some (.ref f9))) (l9 : K.lookup f9 = some ⟨oc9, od9, .func (PySem.W.fnOf "check_maker" "check_maker" (defArgs sCheckMaker) (defBody sCheckMaker) (defScope sCheckMaker) .none kV9 dc9 pm9 an9 cd9 ct9), sl9⟩) (c9 : PySem.W.codeIn K cd9 "check_maker" = true) (k9 : PySem.W.keepIn K (.ref f9) = true)
    (a10 : PySem.W.nsIn K mainGlobals "rounds_table" = some (some (.ref f10))) (l10 : K.lookup f10 = some ⟨oc10, od10, .func (PySem.W.fnOf "rounds_table" "rounds_table" (defArgs sRounds) (defBody sRounds) (defScope sRounds) .none kV10 dc10 pm10 an10 cd10 ct10), sl10⟩) (c10 : PySem.W.codeIn K cd10 "rounds_table" = true) (k10 : PySem.W.keepIn K (.ref f10) = true)
    (a11 : PySem.W.nsIn K mainGlobals "lowered" = some (some (.ref f11))) (l11 : K.lookup f11 = some ⟨oc11, od11, .func (PySem.W.fnOf "lowered" "lowered" (defArgs sLowered) (defBody sLowered) (defScope sLowered) .none kV11 dc11 pm11 an11 cd11 ct11), sl11⟩) (c11 : PySem.W.codeIn K cd11 "lowered" = true) (k11 : PySem.W.keepIn K (.ref f11) = true)
    (a12 : PySem.W.nsIn K mainGlobals "least_rounds" = some (some (.ref f12))) (l12 : K.lookup f12 = some ⟨oc12, od12, .func (PySem.W.fnOf "least_rounds" "least_rounds" (defArgs sLeast) (defBody sLeast) (defScope sLeast) .none kV12 dc12 pm12 an12 cd12 ct12), sl12⟩) (c12 : PySem.W.codeIn K cd12 "least_rounds" = true) (k12 : PySem.W.keepIn K (.ref f12) = true)
    (a13 : PySem.W.nsIn K mainGlobals "distance_by" = some (some (.ref f13))) (l13 : K.lookup f13 = some ⟨oc13, od13, .func (PySem.W.fnOf "distance_by" "distance_by" (defArgs sDistBy) (defBody sDistBy) (defScope sDistBy) .none kV13 dc13 pm13 an13 cd13 ct13), sl13⟩) (c13 : PySem.W.codeIn K cd13 "distance_by" = true) (k13 : PySem.W.keepIn K (.ref f13) = true)
    (a14 : PySem.W.nsIn K mainGlobals "distance_table" = some (some (.ref f14))) (l14 : K.lookup f14 = some ⟨oc14, od14, .func (PySem.W.fnOf "distance_table" "distance_table" (defArgs sDistTab) (defBody sDistTab) (defScope sDistTab) .none kV14 dc14 pm14 an14 cd14 ct14), sl14⟩) (c14 : PySem.W.codeIn K cd14 "distance_table" = true) (k14 : PySem.W.keepIn K (.ref f14) = true)
    (a15 : PySem.W.nsIn K mainGlobals "distance" = some (some (.ref f15))) (l15 : K.lookup f15 = some ⟨oc15, od15, .func (PySem.W.fnOf "distance" "distance" (defArgs sDistance) (defBody sDistance) (defScope sDistance) .none kV15 dc15 pm15 an15 cd15 ct15), sl15⟩) (c15 : PySem.W.codeIn K cd15 "distance" = true) (k15 : PySem.W.keepIn K (.ref f15) = true)
    (a16 : PySem.W.nsIn K mainGlobals "distances" = some (some (.ref f16))) (l16 : K.lookup f16 = some ⟨oc16, od16, .func (PySem.W.fnOf "distances" "distances" (defArgs sDistances) (defBody sDistances) (defScope sDistances) .none kV16 dc16 pm16 an16 cd16 ct16), sl16⟩) (c16 : PySem.W.codeIn K cd16 "distances" = true) (k16 : PySem.W.keepIn K (.ref f16) = true)
    (a17 : PySem.W.nsIn K mainGlobals "_law_pool" = some (some (.ref f17))) (l17 : K.lookup f17 = some ⟨oc17, od17, .func (PySem.W.fnOf "_law_pool" "_law_pool" (defArgs sPool) (defBody sPool) (defScope sPool) .none kV17 dc17 pm17 an17 cd17 ct17), sl17⟩) (c17 : PySem.W.codeIn K cd17 "_law_pool" = true) (k17 : PySem.W.keepIn K (.ref f17) = true)
    (a18 : PySem.W.nsIn K mainGlobals "_law_draw" = some (some (.ref f18))) (l18 : K.lookup f18 = some ⟨oc18, od18, .func (PySem.W.fnOf "_law_draw" "_law_draw" (defArgs sDraw) (defBody sDraw) (defScope sDraw) .none kV18 dc18 pm18 an18 cd18 ct18), sl18⟩) (c18 : PySem.W.codeIn K cd18 "_law_draw" = true) (k18 : PySem.W.keepIn K (.ref f18) = true)
    (a19 : PySem.W.nsIn K mainGlobals "_law_mixed" = some (some (.ref f19))) (l19 : K.lookup f19 = some ⟨oc19, od19, .func (PySem.W.fnOf "_law_mixed" "_law_mixed" (defArgs sMixed) (defBody sMixed) (defScope sMixed) .none kV19 dc19 pm19 an19 cd19 ct19), sl19⟩) (c19 : PySem.W.codeIn K cd19 "_law_mixed" = true) (k19 : PySem.W.keepIn K (.ref f19) = true)
    (a20 : PySem.W.nsIn K mainGlobals "_law_some_links" = some (some (.ref f20))) (l20 : K.lookup f20 = some ⟨oc20, od20, .func (PySem.W.fnOf "_law_some_links" "_law_some_links" (defArgs sSome) (defBody sSome) (defScope sSome) .none kV20 dc20 pm20 an20 cd20 ct20), sl20⟩) (c20 : PySem.W.codeIn K cd20 "_law_some_links" = true) (k20 : PySem.W.keepIn K (.ref f20) = true)
    (a21 : PySem.W.nsIn K mainGlobals "_law_ring_links" = some (some (.ref f21))) (l21 : K.lookup f21 = some ⟨oc21, od21, .func (PySem.W.fnOf "_law_ring_links" "_law_ring_links" (defArgs sRing) (defBody sRing) (defScope sRing) .none kV21 dc21 pm21 an21 cd21 ct21), sl21⟩) (c21 : PySem.W.codeIn K cd21 "_law_ring_links" = true) (k21 : PySem.W.keepIn K (.ref f21) = true)
    (a22 : PySem.W.nsIn K mainGlobals "_law_spec" = some (some (.ref f22))) (l22 : K.lookup f22 = some ⟨oc22, od22, .func (PySem.W.fnOf "_law_spec" "_law_spec" (defArgs sSpec) (defBody sSpec) (defScope sSpec) .none kV22 dc22 pm22 an22 cd22 ct22), sl22⟩) (c22 : PySem.W.codeIn K cd22 "_law_spec" = true) (k22 : PySem.W.keepIn K (.ref f22) = true)
    (a23 : PySem.W.nsIn K mainGlobals "_law_program" = some (some (.ref f23))) (l23 : K.lookup f23 = some ⟨oc23, od23, .func (PySem.W.fnOf "_law_program" "_law_program" (defArgs sProgram) (defBody sProgram) (defScope sProgram) .none kV23 dc23 pm23 an23 cd23 ct23), sl23⟩) (c23 : PySem.W.codeIn K cd23 "_law_program" = true) (k23 : PySem.W.keepIn K (.ref f23) = true)
    (a24 : PySem.W.nsIn K mainGlobals "_law_readers" = some (some (.ref f24))) (l24 : K.lookup f24 = some ⟨oc24, od24, .func (PySem.W.fnOf "_law_readers" "_law_readers" (defArgs sReaders) (defBody sReaders) (defScope sReaders) .none kV24 dc24 pm24 an24 cd24 ct24), sl24⟩) (c24 : PySem.W.codeIn K cd24 "_law_readers" = true) (k24 : PySem.W.keepIn K (.ref f24) = true)
    (a25 : PySem.W.nsIn K mainGlobals "_law_makers" = some (some (.ref f25))) (l25 : K.lookup f25 = some ⟨oc25, od25, .func (PySem.W.fnOf "_law_makers" "_law_makers" (defArgs sMakers) (defBody sMakers) (defScope sMakers) .none kV25 dc25 pm25 an25 cd25 ct25), sl25⟩) (c25 : PySem.W.codeIn K cd25 "_law_makers" = true) (k25 : PySem.W.keepIn K (.ref f25) = true)
    (a26 : PySem.W.nsIn K mainGlobals "_law_no_more" = some (some (.ref f26))) (l26 : K.lookup f26 = some ⟨oc26, od26, .func (PySem.W.fnOf "_law_no_more" "_law_no_more" (defArgs sNoMore) (defBody sNoMore) (defScope sNoMore) .none kV26 dc26 pm26 an26 cd26 ct26), sl26⟩) (c26 : PySem.W.codeIn K cd26 "_law_no_more" = true) (k26 : PySem.W.keepIn K (.ref f26) = true)
    (a27 : PySem.W.nsIn K mainGlobals "law" = some (some (.ref f27))) (l27 : K.lookup f27 = some ⟨oc27, od27, .func (PySem.W.fnOf "law" "law" (defArgs sLaw) (defBody sLaw) (defScope sLaw) .none kV27 dc27 pm27 an27 cd27 ct27), sl27⟩) (c27 : PySem.W.codeIn K cd27 "law" = true) (k27 : PySem.W.keepIn K (.ref f27) = true)
    (a28 : PySem.W.findIn K (.ref C) "__init__" = some (some (.ref f28))) (i28 : PySem.W.isFn K (.ref f28) = true) (l28 : K.lookup f28 = some ⟨oc28, od28, .func (PySem.W.fnOf "__init__" "Program.__init__" (defArgs sInit) (defBody sInit) (defScope sInit) .none kV28 dc28 pm28 an28 cd28 ct28), sl28⟩) (c28 : PySem.W.codeIn K cd28 "Program.__init__" = true) (k28 : PySem.W.keepIn K (.ref f28) = true)
    (a29 : PySem.W.findIn K (.ref C) "keep" = some (some (.ref f29))) (i29 : PySem.W.isFn K (.ref f29) = true) (l29 : K.lookup f29 = some ⟨oc29, od29, .func (PySem.W.fnOf "keep" "Program.keep" (defArgs sKeep) (defBody sKeep) (defScope sKeep) .none kV29 dc29 pm29 an29 cd29 ct29), sl29⟩) (c29 : PySem.W.codeIn K cd29 "Program.keep" = true) (k29 : PySem.W.keepIn K (.ref f29) = true)
    (aC : PySem.W.nsIn K mainGlobals "Program" = some (some (.ref C))) (pgC : PySem.W.plainGet K C Str.empty = true) (hdC : PySem.W.hasDictIn K C = true) (poC : PySem.W.plainOver K C = true) (saC : PySem.W.findIn K (.ref C) "__setattr__" = some (some (.builtin "object.__setattr__"))) (mkC : PySem.W.makesIn K C = true) (kcC : PySem.W.keepIn K (.ref C) = true)
    (n1 : PySem.W.findIn K (.ref C) "steps" = some none) (n2 : PySem.W.findIn K (.ref C) "needs" = some none) (n3 : PySem.W.findIn K (.ref C) "befores" = some none) (n4 : PySem.W.findIn K (.ref C) "kept_links" = some none) (n5 : PySem.W.findIn K (.ref C) "kept_readers" = some none) (n6 : PySem.W.findIn K (.ref C) "kept_makers" = some none)
    (mS : PySem.W.nsIn K mainGlobals "MOST_STEPS" = some (some (.int 12 tS))) (mL : PySem.W.nsIn K mainGlobals "MOST_LINKS" = some (some (.int 40 tL))) (mR : PySem.W.nsIn K mainGlobals "MOST_ROUNDS" = some (some (.int 6 tR)))
    (z1 : PySem.W.nsIn K mainGlobals "isinstance" = some none) (z2 : PySem.W.nsIn K mainGlobals "int" = some none) (z3 : PySem.W.nsIn K mainGlobals "bool" = some none) (z4 : PySem.W.nsIn K mainGlobals "tuple" = some none) (z5 : PySem.W.nsIn K mainGlobals "len" = some none) (z6 : PySem.W.nsIn K mainGlobals "all" = some none) (z7 : PySem.W.nsIn K mainGlobals "any" = some none) (z8 : PySem.W.nsIn K mainGlobals "enumerate" = some none) (z9 : PySem.W.nsIn K mainGlobals "range" = some none) (z10 : PySem.W.nsIn K mainGlobals "sorted" = some none) (z11 : PySem.W.nsIn K mainGlobals "max" = some none) (z12 : PySem.W.nsIn K mainGlobals "sum" = some none) (z13 : PySem.W.nsIn K mainGlobals "abs" = some none) (z14 : PySem.W.nsIn K mainGlobals "list" = some none) :
    ∃ fd : FuncData, (∀ (s : Shared) (u : Value), BindsTo s fd ⟨[u], []⟩ [("_law_script", u)]) ∧ ∀ base : Heap, K.In base → base.Ns mainGlobals mg → FnOk l.prog w K mg base CX0 8 fa fd ["_law_script"] (spLaw K) := by
  have e := hfa.symm.trans (PySem.W.mg_of X G a27)
  cases e
  have T : PC K mg C := ⟨⟨pgC, hdC, poC, saC⟩, n1, n2, n3, n4, n5, n6, PySem.W.mg_of X G aC⟩
  have B : Bi mg := ⟨PySem.W.mg_none_of X G z1, PySem.W.mg_none_of X G z2, PySem.W.mg_none_of X G z3, PySem.W.mg_none_of X G z4, PySem.W.mg_none_of X G z5, PySem.W.mg_none_of X G z6, PySem.W.mg_none_of X G z7, PySem.W.mg_none_of X G z8, PySem.W.mg_none_of X G z9, PySem.W.mg_none_of X G z10, PySem.W.mg_none_of X G z11, PySem.W.mg_none_of X G z12, PySem.W.mg_none_of X G z13, PySem.W.mg_none_of X G z14⟩
  have gmS := PySem.W.mg_of X G mS
  have gmL := PySem.W.mg_of X G mL
  have gmR := PySem.W.mg_of X G mR
  have F1 := fun_mk (st := sIsInteger) l1 c1 k1
  have F2 := fun_mk (st := sIsWithin) l2 c2 k2
  have F3 := fun_mk (st := sIsTriple) l3 c3 k3
  have F4 := fun_mk (st := sAreTriples) l4 c4 k4
  have F5 := fun_mk (st := sLinksOf) l5 c5 k5
  have F6 := fun_mk (st := sIdleRing) l6 c6 k6
  have F7 := fun_mk (st := sIsStep) l7 c7 k7
  have F8 := fun_mk (st := sCheckStep) l8 c8 k8
  have F9 := fun_mk (st := sCheckMaker) l9 c9 k9
  have F10 := fun_mk (st := sRounds) l10 c10 k10
  have F11 := fun_mk (st := sLowered) l11 c11 k11
  have F12 := fun_mk (st := sLeast) l12 c12 k12
  have F13 := fun_mk (st := sDistBy) l13 c13 k13
  have F14 := fun_mk (st := sDistTab) l14 c14 k14
  have F15 := fun_mk (st := sDistance) l15 c15 k15
  have F16 := fun_mk (st := sDistances) l16 c16 k16
  have F17 := fun_mk (st := sPool) l17 c17 k17
  have F18 := fun_mk (st := sDraw) l18 c18 k18
  have F19 := fun_mk (st := sMixed) l19 c19 k19
  have F20 := fun_mk (st := sSome) l20 c20 k20
  have F21 := fun_mk (st := sRing) l21 c21 k21
  have F22 := fun_mk (st := sSpec) l22 c22 k22
  have F23 := fun_mk (st := sProgram) l23 c23 k23
  have F24 := fun_mk (st := sReaders) l24 c24 k24
  have F25 := fun_mk (st := sMakers) l25 c25 k25
  have F26 := fun_mk (st := sNoMore) l26 c26 k26
  have F27 := fun_mk (st := sLaw) l27 c27 k27
  have F28 := fun_mk (st := sInit) l28 c28 k28
  have F29 := fun_mk (st := sKeep) l29 c29 k29
  have b1 := F1.binds (ps := ["thing"]) fun _ _ _ _ _ _ us hl => match us, hl with | [_], _ => rfl
  have b2 := F2.binds (ps := ["thing", "least", "most"]) fun _ _ _ _ _ _ us hl => match us, hl with | [_, _, _], _ => rfl
  have b3 := F3.binds (ps := ["thing", "steps"]) fun _ _ _ _ _ _ us hl => match us, hl with | [_, _], _ => rfl
  have b4 := F4.binds (ps := ["thing", "steps"]) fun _ _ _ _ _ _ us hl => match us, hl with | [_, _], _ => rfl
  have b5 := F5.binds (ps := ["needs", "befores"]) fun _ _ _ _ _ _ us hl => match us, hl with | [_, _], _ => rfl
  have b6 := F6.binds (ps := ["steps", "links"]) fun _ _ _ _ _ _ us hl => match us, hl with | [_, _], _ => rfl
  have b7 := F7.binds (ps := ["program", "thing"]) fun _ _ _ _ _ _ us hl => match us, hl with | [_, _], _ => rfl
  have b8 := F8.binds (ps := ["program", "thing"]) fun _ _ _ _ _ _ us hl => match us, hl with | [_, _], _ => rfl
  have b9 := F9.binds (ps := ["program", "thing"]) fun _ _ _ _ _ _ us hl => match us, hl with | [_, _], _ => rfl
  have b10 := F10.binds (ps := ["program"]) fun _ _ _ _ _ _ us hl => match us, hl with | [_], _ => rfl
  have b11 := F11.binds (ps := ["row", "middle", "ahead"]) fun _ _ _ _ _ _ us hl => match us, hl with | [_, _, _], _ => rfl
  have b12 := F12.binds (ps := ["program", "one", "other"]) fun _ _ _ _ _ _ us hl => match us, hl with | [_, _, _], _ => rfl
  have b13 := F13.binds (ps := ["program", "table", "one", "other"]) fun _ _ _ _ _ _ us hl => match us, hl with | [_, _, _, _], _ => rfl
  have b14 := F14.binds (ps := ["program"]) fun _ _ _ _ _ _ us hl => match us, hl with | [_], _ => rfl
  have b15 := F15.binds (ps := ["program", "one", "other"]) fun _ _ _ _ _ _ us hl => match us, hl with | [_, _, _], _ => rfl
  have b16 := F16.binds (ps := ["program"]) fun _ _ _ _ _ _ us hl => match us, hl with | [_], _ => rfl
  have b17 := F17.binds (ps := ["_law_script"]) fun _ _ _ _ _ _ us hl => match us, hl with | [_], _ => rfl
  have b18 := F18.binds (ps := ["_law_pool_here", "_law_many"]) fun _ _ _ _ _ _ us hl => match us, hl with | [_, _], _ => rfl
  have b19 := F19.binds (ps := ["_law_pool_here", "_law_things"]) fun _ _ _ _ _ _ us hl => match us, hl with | [_, _], _ => rfl
  have b20 := F20.binds (ps := ["_law_pool_here", "_law_places", "_law_many", "_law_far"]) fun _ _ _ _ _ _ us hl => match us, hl with | [_, _, _, _], _ => rfl
  have b21 := F21.binds (ps := ["_law_pool_here", "_law_places"]) fun _ _ _ _ _ _ us hl => match us, hl with | [_, _], _ => rfl
  have b22 := F22.binds (ps := ["_law_pool_here", "_law_most"]) fun _ _ _ _ _ _ us hl => match us, hl with | [_, _], _ => rfl
  have b23 := F23.binds (ps := ["_law_spec_here"]) fun _ _ _ _ _ _ us hl => match us, hl with | [_], _ => rfl
  have b24 := F24.binds (ps := ["_law_spec_here", "_law_step"]) fun _ _ _ _ _ _ us hl => match us, hl with | [_, _], _ => rfl
  have b25 := F25.binds (ps := ["_law_spec_here"]) fun _ _ _ _ _ _ us hl => match us, hl with | [_], _ => rfl
  have b26 := F26.binds (ps := ["_law_one", "_law_other"]) fun _ _ _ _ _ _ us hl => match us, hl with | [_, _], _ => rfl
  have b28 := F28.binds (ps := ["self", "steps", "needs", "befores"]) fun _ _ _ _ _ _ us hl => match us, hl with | [_, _, _, _], _ => rfl
  have b29 := F29.binds (ps := ["self", "steps", "needs", "befores"]) fun _ _ _ _ _ _ us hl => match us, hl with | [_, _, _, _], _ => rfl
  refine ⟨PySem.W.fnOf "law" "law" (defArgs sLaw) (defBody sLaw) (defScope sLaw) .none kV27 dc27 pm27 an27 cd27 ct27, fun s v => .of_eq rfl, fun base _ _ => ?_⟩
  have C1 := Cal.mk (P := l.prog) (w := w) (base := base) (ok_is_integer F1 B) b1 (PySem.W.mg_of X G a1) k1
  have C2 := Cal.mk (P := l.prog) (w := w) (base := base) (ok_is_within F2 C1) b2 (PySem.W.mg_of X G a2) k2
  have C3 := Cal.mk (P := l.prog) (w := w) (base := base) (ok_is_triple F3 B gmR C2) b3 (PySem.W.mg_of X G a3) k3
  have C4 := Cal.mk (P := l.prog) (w := w) (base := base) (ok_are_triples F4 B gmL C3) b4 (PySem.W.mg_of X G a4) k4
  have C5 := Cal.mk (P := l.prog) (w := w) (base := base) (ok_links_of F5 B) b5 (PySem.W.mg_of X G a5) k5
  have C6 := Cal.mk (P := l.prog) (w := w) (base := base) (ok_idle_ring F6 B) b6 (PySem.W.mg_of X G a6) k6
  have G29 := ok_keep (P := l.prog) (w := w) (base := base) F29 B T C5 C6
  have G28 := ok_init (P := l.prog) (w := w) (base := base) F28 T gmS C2 C4 ⟨a29, i29, k29⟩ G29 b29
  have M : Mk K C f28 := ⟨mkC, a28, i28, kcC⟩
  have C7 := Cal.mk (P := l.prog) (w := w) (base := base) (ok_is_step F7 T C2) b7 (PySem.W.mg_of X G a7) k7
  have C8 := Cal.mk (P := l.prog) (w := w) (base := base) (ok_check_step F8 C7) b8 (PySem.W.mg_of X G a8) k8
  have C9 := Cal.mk (P := l.prog) (w := w) (base := base) (ok_check_maker F9 T C7) b9 (PySem.W.mg_of X G a9) k9
  have C11 := Cal.mk (P := l.prog) (w := w) (base := base) (ok_lowered F11 B) b11 (PySem.W.mg_of X G a11) k11
  have C10 := Cal.mk (P := l.prog) (w := w) (base := base) (ok_rounds F10 B T C11) b10 (PySem.W.mg_of X G a10) k10
  have C12 := Cal.mk (P := l.prog) (w := w) (base := base) (ok_least F12 C8 C10) b12 (PySem.W.mg_of X G a12) k12
  have C13 := Cal.mk (P := l.prog) (w := w) (base := base) (ok_dist_by F13 B T) b13 (PySem.W.mg_of X G a13) k13
  have C14 := Cal.mk (P := l.prog) (w := w) (base := base) (ok_dist_tab F14 B T C10 C13) b14 (PySem.W.mg_of X G a14) k14
  have C15 := Cal.mk (P := l.prog) (w := w) (base := base) (ok_distance F15 C9 C10 C13) b15 (PySem.W.mg_of X G a15) k15
  have C16 := Cal.mk (P := l.prog) (w := w) (base := base) (ok_distances F16 C14) b16 (PySem.W.mg_of X G a16) k16
  have C17 := Cal.mk (P := l.prog) (w := w) (base := base) (ok_pool F17 B) b17 (PySem.W.mg_of X G a17) k17
  have C18 := Cal.mk (P := l.prog) (w := w) (base := base) (ok_draw F18 B) b18 (PySem.W.mg_of X G a18) k18
  have C19 := Cal.mk (P := l.prog) (w := w) (base := base) (ok_mixed F19 B C18) b19 (PySem.W.mg_of X G a19) k19
  have C20 := Cal.mk (P := l.prog) (w := w) (base := base) (ok_some F20 B C18) b20 (PySem.W.mg_of X G a20) k20
  have C21 := Cal.mk (P := l.prog) (w := w) (base := base) (ok_ring F21 B C18) b21 (PySem.W.mg_of X G a21) k21
  have C22 := Cal.mk (P := l.prog) (w := w) (base := base) (ok_spec F22 B C18 C19 C20 C21) b22 (PySem.W.mg_of X G a22) k22
  have C23 := Cal.mk (P := l.prog) (w := w) (base := base) (ok_program F23 T M G28 b28) b23 (PySem.W.mg_of X G a23) k23
  have C24 := Cal.mk (P := l.prog) (w := w) (base := base) (ok_readers F24 B) b24 (PySem.W.mg_of X G a24) k24
  have C25 := Cal.mk (P := l.prog) (w := w) (base := base) (ok_makers F25 B C24) b25 (PySem.W.mg_of X G a25) k25
  have C26 := Cal.mk (P := l.prog) (w := w) (base := base) (ok_no_more F26) b26 (PySem.W.mg_of X G a26) k26
  exact ok_law F27 B T C17 C22 C23 C25 C18 C15 C12 C26 C16 C24 M G28 b28
theorem walk {l : PySem.W.OpenLaw} {q : Program} {loose : List Str} {XP : (Str → Option Value) → Heap → Prop} {YP : World → Heap → Prop} {d : DefRec} {K : Params → PySem.W.Frag} (hn : l.most = some 63) (hdf : d.params.defaults = [])
    (hY : ∀ (w : World) (h : Heap), YP w h → (K w.params).In h)
    (F : ∀ (w : World) (mg : Str → Option Value) (fa : Addr) (h : Heap), (K w.params).In h → h.Ns mainGlobals mg → mg d.name = some (.ref fa) →
      ∃ fd : FuncData, (∀ (s : Shared) (u : Value), BindsTo s fd ⟨[u], []⟩ [("_law_script", u)]) ∧ ∀ base : Heap, (K w.params).In base → base.Ns mainGlobals mg → FnOk l.prog w (K w.params) mg base CX0 8 fa fd ["_law_script"] (spLaw (K w.params))) :
    PySem.W.WalkO q loose XP YP l.row.toRowW d [] (fun f vs => PySem.call f vs) :=
  L2.walk_of (n := 63) (k := 8) (x := "_law_script") (CX := fun _ => CX0) (sp := fun w => spLaw (K w.params)) hn (by decide) hdf ⟨rfl, by decide, by decide⟩ hY F (fun _ _ a ns hl _ hS => ⟨a, ns, rfl, hS, hl, fun _ => rfl⟩) fun _ _ _ _ _ z => z
end L2.Ac
open PySem PySem.W PyProof.Rows
set_option maxRecDepth 100000 in
set_option maxHeartbeats 0 in
theorem PySem.Challenge.cw_aheadcells_k36_whole_distances_and_ways_holds : PySem.Challenge.rw_aheadcells_k36_whole_distances_and_ways.Holds := by
  w_on; o_law; k_head; (case hw => w_witness2)
  k_fill
  refine L2.Ac.walk (l := PySem.Challenge.rw_aheadcells_k36_whole_distances_and_ways) rfl rfl (fun w h Y => PySem.W.kIn_of Y) ?F
  case F =>
    intro w mg fa h KX G hmg
    refine' L2.Ac.all_mk KX G hmg ?a1 ?l1 ?c1 ?k1 ?a2 ?l2 ?c2 ?k2 ?a3 ?l3 ?c3 ?k3 ?a4 ?l4 ?c4 ?k4 ?a5 ?l5 ?c5 ?k5 ?a6 ?l6 ?c6 ?k6 ?a7 ?l7 ?c7 ?k7 ?a8 ?l8 ?c8 ?k8 ?a9 ?l9 ?c9 ?k9 ?a10 ?l10 ?c10 ?k10 ?a11 ?l11 ?c11 ?k11 ?a12 ?l12 ?c12 ?k12 ?a13 ?l13 ?c13 ?k13 ?a14 ?l14 ?c14 ?k14 ?a15 ?l15 ?c15 ?k15 ?a16 ?l16 ?c16 ?k16 ?a17 ?l17 ?c17 ?k17 ?a18 ?l18 ?c18 ?k18 ?a19 ?l19 ?c19 ?k19 ?a20 ?l20 ?c20 ?k20 ?a21 ?l21 ?c21 ?k21 ?a22 ?l22 ?c22 ?k22 ?a23 ?l23 ?c23 ?k23 ?a24 ?l24 ?c24 ?k24 ?a25 ?l25 ?c25 ?k25 ?a26 ?l26 ?c26 ?k26 ?a27 ?l27 ?c27 ?k27 ?a28 ?i28 ?l28 ?c28 ?k28 ?a29 ?i29 ?l29 ?c29 ?k29 ?aC ?pgC ?hdC ?poC ?saC ?mkC ?kcC ?n1 ?n2 ?n3 ?n4 ?n5 ?n6 ?mS ?mL ?mR ?z1 ?z2 ?z3 ?z4 ?z5 ?z6 ?z7 ?z8 ?z9 ?z10 ?z11 ?z12 ?z13 ?z14
    (case aC => k_is)
    (case a1 => k_is)
    (case l1 => k_is)
    (case c1 => k_is)
    (case k1 => k_is)
    (case a2 => k_is)
    (case l2 => k_is)
    (case c2 => k_is)
    (case k2 => k_is)
    (case a3 => k_is)
    (case l3 => k_is)
    (case c3 => k_is)
    (case k3 => k_is)
    (case a4 => k_is)
    (case l4 => k_is)
    (case c4 => k_is)
    (case k4 => k_is)
    (case a5 => k_is)
    (case l5 => k_is)
    (case c5 => k_is)
    (case k5 => k_is)
    (case a6 => k_is)
    (case l6 => k_is)
    (case c6 => k_is)
    (case k6 => k_is)
    (case a7 => k_is)
    (case l7 => k_is)
    (case c7 => k_is)
    (case k7 => k_is)
    (case a8 => k_is)
    (case l8 => k_is)
    (case c8 => k_is)
    (case k8 => k_is)
    (case a9 => k_is)
    (case l9 => k_is)
    (case c9 => k_is)
    (case k9 => k_is)
    (case a10 => k_is)
    (case l10 => k_is)
    (case c10 => k_is)
    (case k10 => k_is)
    (case a11 => k_is)
    (case l11 => k_is)
    (case c11 => k_is)
    (case k11 => k_is)
    (case a12 => k_is)
    (case l12 => k_is)
    (case c12 => k_is)
    (case k12 => k_is)
    (case a13 => k_is)
    (case l13 => k_is)
    (case c13 => k_is)
    (case k13 => k_is)
    (case a14 => k_is)
    (case l14 => k_is)
    (case c14 => k_is)
    (case k14 => k_is)
    (case a15 => k_is)
    (case l15 => k_is)
    (case c15 => k_is)
    (case k15 => k_is)
    (case a16 => k_is)
    (case l16 => k_is)
    (case c16 => k_is)
    (case k16 => k_is)
    (case a17 => k_is)
    (case l17 => k_is)
    (case c17 => k_is)
    (case k17 => k_is)
    (case a18 => k_is)
    (case l18 => k_is)
    (case c18 => k_is)
    (case k18 => k_is)
    (case a19 => k_is)
    (case l19 => k_is)
    (case c19 => k_is)
    (case k19 => k_is)
    (case a20 => k_is)
    (case l20 => k_is)
    (case c20 => k_is)
    (case k20 => k_is)
    (case a21 => k_is)
    (case l21 => k_is)
    (case c21 => k_is)
    (case k21 => k_is)
    (case a22 => k_is)
    (case l22 => k_is)
    (case c22 => k_is)
    (case k22 => k_is)
    (case a23 => k_is)
    (case l23 => k_is)
    (case c23 => k_is)
    (case k23 => k_is)
    (case a24 => k_is)
    (case l24 => k_is)
    (case c24 => k_is)
    (case k24 => k_is)
    (case a25 => k_is)
    (case l25 => k_is)
    (case c25 => k_is)
    (case k25 => k_is)
    (case a26 => k_is)
    (case l26 => k_is)
    (case c26 => k_is)
    (case k26 => k_is)
    (case a27 => k_is)
    (case l27 => k_is)
    (case c27 => k_is)
    (case k27 => k_is)
    (case a28 => k_is)
    (case i28 => k_is)
    (case l28 => k_is)
    (case c28 => k_is)
    (case k28 => k_is)
    (case a29 => k_is)
    (case i29 => k_is)
    (case l29 => k_is)
    (case c29 => k_is)
    (case k29 => k_is)
    (case pgC => k_is)
    (case hdC => k_is)
    (case poC => k_is)
    (case saC => k_is)
    (case mkC => k_is)
    (case kcC => k_is)
    (case n1 => k_is)
    (case n2 => k_is)
    (case n3 => k_is)
    (case n4 => k_is)
    (case n5 => k_is)
    (case n6 => k_is)
    (case mS => k_is)
    (case mL => k_is)
    (case mR => k_is)
    (case z1 => k_is)
    (case z2 => k_is)
    (case z3 => k_is)
    (case z4 => k_is)
    (case z5 => k_is)
    (case z6 => k_is)
    (case z7 => k_is)
    (case z8 => k_is)
    (case z9 => k_is)
    (case z10 => k_is)
    (case z11 => k_is)
    (case z12 => k_is)
    (case z13 => k_is)
    (case z14 => k_is)
