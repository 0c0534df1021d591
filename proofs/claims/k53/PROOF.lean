import PyProof.Rows.All
import Wide.All
import OpenK.AllK
import Wide.FinOn
import KE.KStateDown
import Lean
import HandS.Base
import HandS.Call
import HandS.List
import HandS.Comp
import HandS.Ends
import HandS.Dict
import HandS.Iter
import HandS.More
import HandS.Words
import HandS.WordsList
import HandS.WordsDict
import HandS.WordsExc
import HandS.Walk
import HandS.Star
import HandS.IsInst
import HandS.Zip
import HandS.DictComp
import HandS.TupAny
import HandS.Style
import HandS.Deep
import HandS.Set
import HandS.SetFor
import HandS.SortInts
import HandS.SortRule
import HandS.Conv
import HandS.Defaults
import HandS.Head0
import HandS.Head1
import HandS.Head2
import HandS.HeadEnd
import HandS.HeadHook1
import HandS.HeadHook2
import KE.SortKeyHeap
import HandS.Strs
import PySem.Challenge.RW_pitlots_k53_whole_refills_as_payments
import KE.GoesEnum
import KE.SortData
import HandS.SortKw
import KE.KDictSum
import HandS.Evl
set_option Elab.async false
set_option linter.all false
section
set_option autoImplicit false
namespace Pt
/-! ### sums over blocks -/
abbrev Lot := List Nat
abbrev Tab := List (List Nat)
def isum (n : Nat) (f : Nat → Int) : Int := ((List.range n).map f).sum
theorem isum_zero (f : Nat → Int) : isum 0 f = 0 := rfl
theorem isum_succ (n : Nat) (f : Nat → Int) : isum (n + 1) f = isum n f + f n := by
  unfold isum
  rw [List.range_succ, List.map_append, List.sum_append]
  simp
theorem isum_congr {n : Nat} {f g : Nat → Int} (h : ∀ b, b < n → f b = g b) : isum n f = isum n g := by
  induction n with
  | zero => rfl
  | succ n ih => rw [isum_succ, isum_succ, ih (fun b hb => h b (by omega)), h n (by omega)]
theorem isum_add (n : Nat) (f g : Nat → Int) : isum n (fun b => f b + g b) = isum n f + isum n g := by
  induction n with
  | zero => rfl
  | succ n ih => rw [isum_succ, isum_succ, isum_succ, ih]; omega
theorem isum_sub (n : Nat) (f g : Nat → Int) : isum n (fun b => f b - g b) = isum n f - isum n g := by
  induction n with
  | zero => rfl
  | succ n ih => rw [isum_succ, isum_succ, isum_succ, ih]; omega
theorem isum_const0 (n : Nat) : isum n (fun _ => 0) = 0 := by
  induction n with
  | zero => rfl
  | succ n ih => rw [isum_succ, ih]; omega
theorem isum_le {n : Nat} {f g : Nat → Int} (h : ∀ b, b < n → f b ≤ g b) : isum n f ≤ isum n g := by
  induction n with
  | zero => exact Int.le_refl _
  | succ n ih =>
    rw [isum_succ, isum_succ]
    have h1 := ih (fun b hb => h b (by omega))
    have h2 := h n (by omega)
    omega
theorem isum_nonneg {n : Nat} {f : Nat → Int} (h : ∀ b, b < n → 0 ≤ f b) : 0 ≤ isum n f := by
  have := isum_le (n := n) (f := fun _ => 0) (g := f) h
  rw [isum_const0] at this
  exact this
/-- sums that are equal, place by place at most: equal at each place -/
theorem isum_tight {n : Nat} {f g : Nat → Int} (h : ∀ b, b < n → f b ≤ g b) (e : isum n g ≤ isum n f) : ∀ b, b < n → f b = g b := by
  induction n with
  | zero => intro b hb; omega
  | succ n ih =>
    rw [isum_succ, isum_succ] at e
    have h1 := isum_le (n := n) (fun b hb => h b (by omega))
    have h2 := h n (by omega)
    intro b hb
    by_cases hbn : b = n
    · subst hbn; omega
    · exact ih (fun b hb => h b (by omega)) (by omega) b (by omega)
theorem isum_zero_of {n : Nat} {f : Nat → Int} (h : ∀ b, b < n → 0 ≤ f b) (e : isum n f ≤ 0) : ∀ b, b < n → f b = 0 := by
  intro b hb
  have := isum_tight (n := n) (f := fun _ => 0) (g := f) h (by rw [isum_const0]; exact e) b hb
  exact this.symm
theorem isum_single {n k : Nat} (hk : k < n) (c : Int) : isum n (fun b => if b = k then c else 0) = c := by
  induction n with
  | zero => omega
  | succ n ih =>
    rw [isum_succ]
    by_cases h : k = n
    · subst h
      rw [if_pos rfl, isum_congr (g := fun _ => 0) (fun b hb => if_neg (by omega)), isum_const0]
      omega
    · rw [ih (by omega), if_neg (by omega)]
      omega
/-! ### ascending lots -/
def Asc (l : Lot) : Prop := l.Pairwise (· < ·)
theorem Asc.nil : Asc [] := List.Pairwise.nil
theorem asc_cons {a : Nat} {l : Lot} : Asc (a :: l) ↔ (∀ x ∈ l, a < x) ∧ Asc l := List.pairwise_cons
theorem Asc.ext : ∀ {l m : Lot}, Asc l → Asc m → (∀ x, x ∈ l ↔ x ∈ m) → l = m
  | [], [], _, _, _ => rfl
  | [], b :: m, _, _, h => absurd ((h b).mpr List.mem_cons_self) (by simp)
  | a :: l, [], _, _, h => absurd ((h a).mp List.mem_cons_self) (by simp)
  | a :: l, b :: m, h1, h2, h => by
    obtain ⟨p1, q1⟩ := asc_cons.mp h1
    obtain ⟨p2, q2⟩ := asc_cons.mp h2
    have e : a = b := by
      rcases List.mem_cons.mp ((h a).mp List.mem_cons_self) with e | e
      · exact e
      · rcases List.mem_cons.mp ((h b).mpr List.mem_cons_self) with e' | e'
        · exact e'.symm
        · have := p2 a e
          have := p1 b e'
          omega
    subst e
    congr 1
    refine Asc.ext q1 q2 fun x => ?_
    constructor
    · intro hx
      rcases List.mem_cons.mp ((h x).mp (List.mem_cons_of_mem _ hx)) with e | e
      · have := p1 x hx; omega
      · exact e
    · intro hx
      rcases List.mem_cons.mp ((h x).mpr (List.mem_cons_of_mem _ hx)) with e | e
      · have := p2 x hx; omega
      · exact e
theorem Asc.filter {l : Lot} (h : Asc l) (p : Nat → Bool) : Asc (l.filter p) := List.Pairwise.filter p h
theorem asc_range (n : Nat) : Asc (List.range n) := List.pairwise_lt_range
theorem Asc.nodup {l : Lot} (h : Asc l) : l.Nodup := List.Pairwise.imp (fun h => Nat.ne_of_lt h) h
theorem asc_snoc {l : Lot} {b : Nat} (h : Asc l) (hb : ∀ x ∈ l, x < b) : Asc (l ++ [b]) := by
  unfold Asc
  rw [List.pairwise_append]
  exact ⟨h, List.pairwise_singleton _ _, fun x hx y hy => by simp at hy; subst hy; exact hb x hx⟩
theorem Asc.of_range {l : Lot} (h : Asc l) {n : Nat} (hn : ∀ x ∈ l, x < n) : l = (List.range n).filter (fun b => decide (b ∈ l)) := by
  refine Asc.ext h ((asc_range n).filter _) fun x => ?_
  rw [List.mem_filter, List.mem_range]
  constructor
  · intro hx; exact ⟨hn x hx, by simpa using hx⟩
  · intro hx; simpa using hx.2
theorem sum_filter_if (p : Nat → Bool) (f : Nat → Int) : ∀ l : List Nat, ((l.filter p).map f).sum = (l.map fun b => if p b = true then f b else 0).sum
  | [] => rfl
  | a :: l => by
    by_cases h : p a = true
    · rw [List.filter_cons_of_pos h, List.map_cons, List.map_cons, List.sum_cons, List.sum_cons, sum_filter_if p f l, if_pos h]
    · rw [List.filter_cons_of_neg h, List.map_cons, List.sum_cons, sum_filter_if p f l, if_neg h]
      omega
/-- what a lot's blocks are worth together -/
def wsum (w : List Int) (l : Lot) : Int := (l.map fun b => w.getD b 0).sum
open Classical in
theorem lsum_eq {l : Lot} (h : Asc l) {n : Nat} (hn : ∀ x ∈ l, x < n) (f : Nat → Int) : (l.map f).sum = isum n fun b => if b ∈ l then f b else 0 := by
  have e := h.of_range hn
  have e2 : (l.map f).sum = (((List.range n).filter (fun b => decide (b ∈ l))).map f).sum := by rw [← e]
  rw [e2, sum_filter_if]
  unfold isum
  congr 1
  apply List.map_congr_left
  intro b _
  by_cases hb : b ∈ l
  · simp [hb]
  · simp [hb]
open Classical in
theorem wsum_eq {w : List Int} {l : Lot} (h : Asc l) {n : Nat} (hn : ∀ x ∈ l, x < n) : wsum w l = isum n fun b => if b ∈ l then w.getD b 0 else 0 := lsum_eq h hn _
open Classical in
theorem len_eq {l : Lot} (h : Asc l) {n : Nat} (hn : ∀ x ∈ l, x < n) : (l.length : Int) = isum n fun b => if b ∈ l then 1 else 0 := by
  rw [← lsum_eq h hn (fun _ => 1)]
  clear h hn
  induction l with
  | nil => rfl
  | cons a l ih => rw [List.map_cons, List.sum_cons, ← ih, List.length_cons]; omega
/-! ### pits -/
def Pit (t : Tab) (l : Lot) : Prop := Asc l ∧ ∀ b ∈ l, b < t.length ∧ ∀ c ∈ t.getD b [], c ∈ l
theorem Pit.lt {t : Tab} {l : Lot} (h : Pit t l) : ∀ b ∈ l, b < t.length := fun b hb => (h.2 b hb).1
theorem pit_nil (t : Tab) : Pit t [] := ⟨Asc.nil, fun b hb => by simp at hb⟩
def inter (l m : Lot) : Lot := l.filter fun b => decide (b ∈ m)
theorem mem_inter {l m : Lot} {x : Nat} : x ∈ inter l m ↔ x ∈ l ∧ x ∈ m := by unfold inter; rw [List.mem_filter]; simp
theorem asc_inter {l m : Lot} (h : Asc l) : Asc (inter l m) := h.filter _
def uni (n : Nat) (l m : Lot) : Lot := (List.range n).filter fun b => decide (b ∈ l ∨ b ∈ m)
theorem mem_uni {n : Nat} {l m : Lot} (hl : ∀ x ∈ l, x < n) (hm : ∀ x ∈ m, x < n) {x : Nat} : x ∈ uni n l m ↔ x ∈ l ∨ x ∈ m := by
  unfold uni
  rw [List.mem_filter, List.mem_range]
  simp only [decide_eq_true_eq]
  constructor
  · exact fun h => h.2
  · intro h
    refine ⟨?_, h⟩
    rcases h with h | h
    · exact hl x h
    · exact hm x h
theorem asc_uni {n : Nat} {l m : Lot} : Asc (uni n l m) := (asc_range n).filter _
theorem Pit.inter {t : Tab} {l m : Lot} (hl : Pit t l) (hm : Pit t m) : Pit t (inter l m) :=
  ⟨asc_inter hl.1, fun b hb => by
    obtain ⟨h1, h2⟩ := mem_inter.mp hb
    exact ⟨hl.lt b h1, fun c hc => mem_inter.mpr ⟨(hl.2 b h1).2 c hc, (hm.2 b h2).2 c hc⟩⟩⟩
theorem Pit.uni {t : Tab} {l m : Lot} (hl : Pit t l) (hm : Pit t m) : Pit t (uni t.length l m) :=
  ⟨asc_uni, fun b hb => by
    rcases (mem_uni hl.lt hm.lt).mp hb with h | h
    · exact ⟨hl.lt b h, fun c hc => (mem_uni hl.lt hm.lt).mpr (.inl ((hl.2 b h).2 c hc))⟩
    · exact ⟨hm.lt b h, fun c hc => (mem_uni hl.lt hm.lt).mpr (.inr ((hm.2 b h).2 c hc))⟩⟩
theorem wsum_mod {t : Tab} {w : List Int} {l m : Lot} (hl : Pit t l) (hm : Pit t m) : wsum w (inter l m) + wsum w (uni t.length l m) = wsum w l + wsum w m := by
  rw [wsum_eq hl.1 hl.lt, wsum_eq hm.1 hm.lt, wsum_eq (hl.inter hm).1 (hl.inter hm).lt, wsum_eq (hl.uni hm).1 (hl.uni hm).lt, ← isum_add, ← isum_add]
  apply isum_congr
  intro b hb
  have h1 := @mem_inter l m b
  have h2 := mem_uni hl.lt hm.lt (x := b)
  by_cases p : b ∈ l <;> by_cases q : b ∈ m <;> simp [h1, h2, p, q]
/-! ### all pits -/
/-- all pits of a ground, the smaller first -/
structure IsPits (t : Tab) (ps : List Lot) : Prop where
  mem : ∀ l, l ∈ ps ↔ Pit t l
  nd : ps.Nodup
  ord : ps.Pairwise fun a b => a.length ≤ b.length
  len : ps.length ≤ 2 ^ t.length
def rawStep (t : Tab) (found : List Lot) (b : Nat) : List Lot := found ++ (found.filter fun l => (t.getD b []).all fun c => decide (c ∈ l)).map fun l => l ++ [b]
def pitsRaw (t : Tab) : Nat → List Lot
  | 0 => [[]]
  | n + 1 => rawStep t (pitsRaw t n) n
/-- a ground's table: each block's covers ascend and are lesser -/
def TabOk (t : Tab) : Prop := ∀ b, Asc (t.getD b []) ∧ ∀ c ∈ t.getD b [], c < b
theorem raw_mem {t : Tab} (tk : TabOk t) : ∀ (n : Nat) (l : Lot), l ∈ pitsRaw t n ↔ Asc l ∧ ∀ b ∈ l, b < n ∧ ∀ c ∈ t.getD b [], c ∈ l
  | 0, l => by
    unfold pitsRaw
    rw [List.mem_singleton]
    constructor
    · rintro rfl; exact ⟨Asc.nil, fun b hb => by simp at hb⟩
    · rintro ⟨_, h⟩
      cases l with
      | nil => rfl
      | cons a l => have := (h a List.mem_cons_self).1; omega
  | n + 1, l => by
    show l ∈ rawStep t (pitsRaw t n) n ↔ _
    unfold rawStep
    rw [List.mem_append, List.mem_map, raw_mem tk n l]
    constructor
    · rintro (⟨h1, h2⟩ | ⟨m, hm, rfl⟩)
      · exact ⟨h1, fun b hb => ⟨by have := (h2 b hb).1; omega, (h2 b hb).2⟩⟩
      · rw [List.mem_filter, raw_mem tk n m] at hm
        obtain ⟨⟨h1, h2⟩, h3⟩ := hm
        have h3' : ∀ c ∈ t.getD n [], c ∈ m := fun c hc => by
          have := List.all_eq_true.mp h3 c hc
          simpa using this
        refine ⟨asc_snoc h1 fun x hx => (h2 x hx).1, fun b hb => ?_⟩
        rcases List.mem_append.mp hb with hb | hb
        · exact ⟨by have := (h2 b hb).1; omega, fun c hc => List.mem_append_left _ ((h2 b hb).2 c hc)⟩
        · rw [List.mem_singleton] at hb
          subst hb
          exact ⟨by omega, fun c hc => List.mem_append_left _ (h3' c hc)⟩
    · rintro ⟨h1, h2⟩
      by_cases hn : n ∈ l
      · right
        have hne : l ≠ [] := fun e => by rw [e] at hn; simp at hn
        have hspl : l.dropLast ++ [l.getLast hne] = l := List.dropLast_concat_getLast hne
        have hlast : l.getLast hne = n := by
          have h3 : Asc (l.dropLast ++ [l.getLast hne]) := by rw [hspl]; exact h1
          unfold Asc at h3
          rw [List.pairwise_append] at h3
          have h4 : n ∈ l.dropLast ++ [l.getLast hne] := by rw [hspl]; exact hn
          rcases List.mem_append.mp h4 with h5 | h5
          · have h6 := h3.2.2 n h5 (l.getLast hne) (by simp)
            have h7 := (h2 (l.getLast hne) (List.getLast_mem hne)).1
            omega
          · simp at h5; exact h5.symm
        rw [hlast] at hspl
        have h3 : Asc (l.dropLast ++ [n]) := by rw [hspl]; exact h1
        unfold Asc at h3
        rw [List.pairwise_append] at h3
        have hlt : ∀ x ∈ l.dropLast, x < n := fun x hx => h3.2.2 x hx n (by simp)
        have hin : ∀ x ∈ l, x < n → x ∈ l.dropLast := fun x hx hxn => by
          rw [← hspl] at hx
          rcases List.mem_append.mp hx with h | h
          · exact h
          · simp at h; omega
        refine ⟨l.dropLast, List.mem_filter.mpr ⟨(raw_mem tk n _).mpr ⟨h3.1, fun b hb => ⟨hlt b hb, fun c hc => ?_⟩⟩, ?_⟩, hspl⟩
        · have hbl : b ∈ l := by rw [← hspl]; exact List.mem_append_left _ hb
          have hcl := (h2 b hbl).2 c hc
          have := (tk b).2 c hc
          have := hlt b hb
          exact hin c hcl (by omega)
        · rw [List.all_eq_true]
          intro c hc
          have h4 := (h2 n hn).2 c hc
          have := (tk n).2 c hc
          simpa using hin c h4 this
      · left
        refine ⟨h1, fun b hb => ⟨?_, (h2 b hb).2⟩⟩
        have := (h2 b hb).1
        have : b ≠ n := fun e => hn (e ▸ hb)
        omega
theorem raw_nd {t : Tab} (tk : TabOk t) : ∀ n, (pitsRaw t n).Nodup
  | 0 => by simp [pitsRaw]
  | n + 1 => by
    show (rawStep t (pitsRaw t n) n).Nodup
    unfold rawStep
    rw [List.nodup_append]
    refine ⟨raw_nd tk n, ?_, fun a ha b hb e => ?_⟩
    · refine List.Pairwise.map _ (fun a b (hab : a ≠ b) => ?_) ((raw_nd tk n).filter _)
      intro e
      exact hab (List.append_cancel_right e)
    · subst e
      obtain ⟨m, _, rfl⟩ := List.mem_map.mp hb
      have := ((raw_mem tk n _).mp ha).2 n (by simp)
      omega
theorem raw_len (t : Tab) : ∀ n, (pitsRaw t n).length ≤ 2 ^ n
  | 0 => Nat.le_refl _
  | n + 1 => by
    show (rawStep t (pitsRaw t n) n).length ≤ _
    unfold rawStep
    rw [List.length_append, List.length_map, Nat.pow_succ]
    have h1 := raw_len t n
    have h2 := List.length_filter_le (fun l => (t.getD n []).all fun c => decide (c ∈ l)) (pitsRaw t n)
    omega
theorem isPits_of {t : Tab} (tk : TabOk t) {ps : List Lot} (hp : ps.Perm (pitsRaw t t.length)) (ho : ps.Pairwise fun a b => a.length ≤ b.length) : IsPits t ps :=
  ⟨fun l => by rw [hp.mem_iff, raw_mem tk]; rfl, (hp.nodup_iff).mpr (raw_nd tk _), ho, by rw [hp.length_eq]; exact raw_len t _⟩
/-! ### the best pits -/
def Best (t : Tab) (w : List Int) (l : Lot) : Prop := Pit t l ∧ ∀ m, Pit t m → wsum w m ≤ wsum w l
structure IsBest (t : Tab) (w : List Int) (bs : List Lot) : Prop where
  mem : ∀ l, l ∈ bs ↔ Best t w l
  ord : bs.Pairwise fun a b => a.length ≤ b.length
  ne : bs ≠ []
theorem isBest_of {t : Tab} {w : List Int} {ps : List Lot} (h : IsPits t ps) {M : Int} (h1 : ∃ l ∈ ps, wsum w l = M) (h2 : ∀ l ∈ ps, wsum w l ≤ M) : IsBest t w (ps.filter fun l => decide (wsum w l = M)) := by
  obtain ⟨l0, hl0, e0⟩ := h1
  refine ⟨fun l => ?_, h.ord.filter _, ?_⟩
  · rw [List.mem_filter]
    simp only [decide_eq_true_eq]
    constructor
    · rintro ⟨a, b⟩
      exact ⟨(h.mem l).mp a, fun m hm => by rw [b]; exact h2 m ((h.mem m).mpr hm)⟩
    · rintro ⟨a, b⟩
      have ha := (h.mem l).mpr a
      refine ⟨ha, ?_⟩
      have := b l0 ((h.mem l0).mp hl0)
      have := h2 l ha
      omega
  · intro e
    have : l0 ∈ ps.filter fun l => decide (wsum w l = M) := List.mem_filter.mpr ⟨hl0, by simpa using e0⟩
    rw [e] at this
    simp at this
theorem Best.eqv {t : Tab} {w : List Int} {l m : Lot} (hl : Best t w l) (hm : Best t w m) : wsum w l = wsum w m := by
  have := hl.2 m hm.1
  have := hm.2 l hl.1
  omega
theorem Best.inter {t : Tab} {w : List Int} {l m : Lot} (hl : Best t w l) (hm : Best t w m) : Best t w (inter l m) ∧ Best t w (uni t.length l m) := by
  have e := wsum_mod (w := w) hl.1 hm.1
  have p1 := hl.1.inter hm.1
  have p2 := hl.1.uni hm.1
  have h1 := hl.2 _ p1
  have h2 := hl.2 _ p2
  have h3 := hl.eqv hm
  refine ⟨⟨p1, fun k hk => ?_⟩, ⟨p2, fun k hk => ?_⟩⟩
  · have := hl.2 k hk; omega
  · have := hl.2 k hk; omega
/-- the smallest best pit lies in all others -/
theorem least_of {t : Tab} {w : List Int} {bs : List Lot} (h : IsBest t w bs) {l : Lot} (h0 : bs[0]? = some l) : Best t w l ∧ ∀ m, Best t w m → ∀ x ∈ l, x ∈ m := by
  have hl : Best t w l := (h.mem l).mp (List.mem_of_getElem? h0)
  refine ⟨hl, fun m hm x hx => ?_⟩
  have hmin : ∀ k, Best t w k → l.length ≤ k.length := by
    intro k hk
    have hk' := (h.mem k).mpr hk
    cases bs with
    | nil => simp at hk'
    | cons a r =>
      simp at h0
      subst h0
      rcases List.mem_cons.mp hk' with e | e
      · rw [e]; exact Nat.le_refl _
      · exact (List.pairwise_cons.mp h.ord).1 k e
  have h1 := hmin _ (hl.inter hm).1
  unfold inter at h1
  have h2 := List.length_filter_le (fun b => decide (b ∈ m)) l
  have h3 : l.filter (fun b => decide (b ∈ m)) = l := by
    apply List.Sublist.eq_of_length_le List.filter_sublist
    exact h1
  have h4 := (List.filter_eq_self.mp h3) x hx
  simpa using h4
open Classical in
theorem greatest_of {t : Tab} {w : List Int} {bs : List Lot} (h : IsBest t w bs) {l : Lot} (h0 : bs[bs.length - 1]? = some l) : Best t w l ∧ ∀ m, Best t w m → ∀ x ∈ m, x ∈ l := by
  have hl : Best t w l := (h.mem l).mp (List.mem_of_getElem? h0)
  refine ⟨hl, fun m hm x hx => ?_⟩
  have hmax : ∀ k, Best t w k → k.length ≤ l.length := by
    intro k hk
    have hk' := (h.mem k).mpr hk
    obtain ⟨i, hi, e⟩ := List.mem_iff_getElem.mp hk'
    by_cases hlast : i = bs.length - 1
    · subst hlast
      rw [List.getElem?_eq_getElem hi, e] at h0
      simp at h0
      rw [h0]
      exact Nat.le_refl _
    · have h5 := List.pairwise_iff_getElem.mp h.ord i (bs.length - 1) hi (by omega) (by omega)
      rw [List.getElem?_eq_getElem (by omega : bs.length - 1 < bs.length)] at h0
      simp at h0
      rw [e, h0] at h5
      exact h5
  have hu := (hl.inter hm).2
  have h1 := hmax _ hu
  have h2 : ((uni t.length l m).length : Int) ≤ (l.length : Int) := by omega
  rw [len_eq hu.1.1 hu.1.lt, len_eq hl.1.1 hl.1.lt] at h2
  have h3 := isum_tight (f := fun b => if b ∈ l then 1 else 0) (g := fun b => if b ∈ uni t.length l m then 1 else 0) (fun b _ => by
    have := mem_uni hl.1.lt hm.1.lt (x := b)
    by_cases p : b ∈ l <;> by_cases q : b ∈ m <;> simp [this, p, q]) h2 x (hm.1.lt x hx)
  have := mem_uni hl.1.lt hm.1.lt (x := x)
  by_cases p : x ∈ l
  · exact p
  · simp [this, p, hx] at h3
end Pt
end
section
set_option autoImplicit false
namespace Pt
/-! ### optima over families: the least value, what all and what some of its makers have -/
structure Opt {ι : Type} (F : ι → Prop) (val : ι → Int) (mem : ι → Nat → Prop) (v : Int) (l m : Lot) : Prop where
  att : ∃ i, F i ∧ val i = v
  low : ∀ i, F i → v ≤ val i
  al : Asc l
  am : Asc m
  ml : ∀ x, x ∈ l ↔ ∀ i, F i → val i = v → mem i x
  mm : ∀ x, x ∈ m ↔ ∃ i, F i ∧ val i = v ∧ mem i x
section
variable {ι : Type} {F G : ι → Prop} {val : ι → Int} {mem : ι → Nat → Prop} {v v' : Int} {l m l' m' : Lot}
theorem Opt.iff (h : Opt F val mem v l m) (e : ∀ i, F i ↔ G i) : Opt G val mem v l m := by
  have e' : F = G := funext fun i => propext (e i)
  rw [← e']; exact h
theorem Opt.more (h : Opt F val mem v l m) (g : Opt G val mem v' l' m') (lt : v < v') : Opt (fun i => F i ∨ G i) val mem v l m := by
  have no : ∀ i, G i → val i ≠ v := fun i hi e => by have := g.low i hi; omega
  obtain ⟨i, hi, e⟩ := h.att
  refine ⟨⟨i, .inl hi, e⟩, ?_, h.al, h.am, fun x => ?_, fun x => ?_⟩
  · rintro i (hi | hi)
    · exact h.low i hi
    · have := g.low i hi; omega
  · rw [h.ml]
    constructor
    · rintro q i (hi | hi) e
      · exact q i hi e
      · exact absurd e (no i hi)
    · exact fun q i hi e => q i (.inl hi) e
  · rw [h.mm]
    constructor
    · rintro ⟨i, hi, q⟩; exact ⟨i, .inl hi, q⟩
    · rintro ⟨i, hi | hi, e, q⟩
      · exact ⟨i, hi, e, q⟩
      · exact absurd e (no i hi)
theorem Opt.swap (h : Opt (fun i => F i ∨ G i) val mem v l m) : Opt (fun i => G i ∨ F i) val mem v l m := h.iff fun _ => Or.comm
theorem Opt.less (h : Opt F val mem v l m) (g : Opt G val mem v' l' m') (lt : v' < v) : Opt (fun i => F i ∨ G i) val mem v' l' m' := (g.more h lt).swap
theorem Opt.same (h : Opt F val mem v l m) (g : Opt G val mem v l' m') {u : Lot} (au : Asc u) (mu : ∀ x, x ∈ u ↔ x ∈ m ∨ x ∈ m') : Opt (fun i => F i ∨ G i) val mem v (inter l l') u := by
  obtain ⟨i, hi, e⟩ := h.att
  refine ⟨⟨i, .inl hi, e⟩, ?_, asc_inter h.al, au, fun x => ?_, fun x => ?_⟩
  · rintro i (hi | hi)
    · exact h.low i hi
    · exact g.low i hi
  · rw [mem_inter, h.ml, g.ml]
    constructor
    · rintro ⟨p, q⟩ i (hi | hi) e
      · exact p i hi e
      · exact q i hi e
    · exact fun q => ⟨fun i hi e => q i (.inl hi) e, fun i hi e => q i (.inr hi) e⟩
  · rw [mu, h.mm, g.mm]
    constructor
    · rintro (⟨i, hi, q⟩ | ⟨i, hi, q⟩)
      · exact ⟨i, .inl hi, q⟩
      · exact ⟨i, .inr hi, q⟩
    · rintro ⟨i, hi | hi, q⟩
      · exact .inl ⟨i, hi, q⟩
      · exact .inr ⟨i, hi, q⟩
end
/-! ### what stays open -/
def memL (q : Lot) (x : Nat) : Prop := x ∈ q
/-- the pits that lie in a lot -/
def Sub (t : Tab) (p q : Lot) : Prop := Pit t q ∧ ∀ x ∈ q, x ∈ p
/-- of the pits in p: the least refills, what all such have, what some has -/
def OpenOpt (t : Tab) (r : List Int) (p : Lot) (v : Int) (l m : Lot) : Prop := Opt (Sub t p) (wsum r) memL v l m
def wout (p : Lot) (b : Nat) : Lot := p.filter fun x => decide (x ∉ [b])
theorem mem_wout {p : Lot} {b x : Nat} : x ∈ wout p b ↔ x ∈ p ∧ x ≠ b := by unfold wout; rw [List.mem_filter]; simp
theorem asc_wout {p : Lot} (h : Asc p) (b : Nat) : Asc (wout p b) := h.filter _
theorem len_wout {p : Lot} {b : Nat} (hb : b ∈ p) : (wout p b).length < p.length := by
  have h1 : (wout p b).length ≤ p.length := List.length_filter_le _ _
  rcases Nat.lt_or_eq_of_le h1 with h | h
  · exact h
  · have h2 : wout p b = p := List.Sublist.eq_of_length List.filter_sublist h
    have := (mem_wout (p := p) (b := b) (x := b)).mp (by rw [h2]; exact hb)
    exact absurd rfl this.2
/-- the family told by the blocks of bs that have been looked at -/
def Fam (t : Tab) (p : Lot) (bs : List Nat) (q : Lot) : Prop := q = p ∨ ∃ b ∈ bs, Pit t (wout p b) ∧ Sub t (wout p b) q
theorem fam_start {t : Tab} {r : List Int} {p : Lot} (hp : Pit t p) : Opt (Fam t p []) (wsum r) memL (wsum r p) p p := by
  have e : ∀ q, Fam t p [] q ↔ q = p := fun q => by unfold Fam; simp
  refine ⟨⟨p, (e p).mpr rfl, rfl⟩, fun q hq => by rw [(e q).mp hq]; exact Int.le_refl _, hp.1, hp.1, fun x => ?_, fun x => ?_⟩
  · constructor
    · intro hx q hq _; rw [(e q).mp hq]; exact hx
    · intro h; exact h p ((e p).mpr rfl) rfl
  · constructor
    · intro hx; exact ⟨p, (e p).mpr rfl, rfl, hx⟩
    · rintro ⟨q, hq, _, hx⟩; rw [(e q).mp hq] at hx; exact hx
theorem fam_no {t : Tab} {p : Lot} {bs : List Nat} {b : Nat} (h : ¬ Pit t (wout p b)) (q : Lot) : Fam t p (bs ++ [b]) q ↔ Fam t p bs q := by
  unfold Fam
  constructor
  · rintro (e | ⟨c, hc, h1, h2⟩)
    · exact .inl e
    · rcases List.mem_append.mp hc with hc | hc
      · exact .inr ⟨c, hc, h1, h2⟩
      · rw [List.mem_singleton] at hc
        rw [hc] at h1
        exact absurd h1 h
  · rintro (e | ⟨c, hc, h1⟩)
    · exact .inl e
    · exact .inr ⟨c, List.mem_append_left _ hc, h1⟩
theorem fam_yes {t : Tab} {p : Lot} {bs : List Nat} {b : Nat} (h : Pit t (wout p b)) (q : Lot) : Fam t p (bs ++ [b]) q ↔ Fam t p bs q ∨ Sub t (wout p b) q := by
  unfold Fam
  constructor
  · rintro (e | ⟨c, hc, h1, h2⟩)
    · exact .inl (.inl e)
    · rcases List.mem_append.mp hc with hc | hc
      · exact .inl (.inr ⟨c, hc, h1, h2⟩)
      · rw [List.mem_singleton] at hc
        rw [hc] at h2
        exact .inr h2
  · rintro ((e | ⟨c, hc, h1⟩) | h1)
    · exact .inl e
    · exact .inr ⟨c, List.mem_append_left _ hc, h1⟩
    · exact .inr ⟨b, by simp, h, h1⟩
/-- all blocks looked at: all pits within -/
theorem fam_all {t : Tab} (tk : TabOk t) {p : Lot} (hp : Pit t p) (q : Lot) : Fam t p p q ↔ Sub t p q := by
  constructor
  · rintro (e | ⟨b, hb, h1, h2⟩)
    · rw [e]; exact ⟨hp, fun x hx => hx⟩
    · exact ⟨h2.1, fun x hx => (mem_wout.mp (h2.2 x hx)).1⟩
  · rintro ⟨hq, hs⟩
    by_cases e : q = p
    · exact .inl e
    · right
      -- the greatest block of p beside q
      have hne : p.filter (fun x => decide (x ∉ q)) ≠ [] := by
        intro h0
        apply e
        refine Asc.ext hq.1 hp.1 fun x => ⟨hs x, fun hx => ?_⟩
        by_cases hxq : x ∈ q
        · exact hxq
        · have : x ∈ p.filter (fun x => decide (x ∉ q)) := List.mem_filter.mpr ⟨hx, by simpa using hxq⟩
          rw [h0] at this; simp at this
      have hA : Asc (p.filter (fun x => decide (x ∉ q))) := hp.1.filter _
      have hmem := List.getLast_mem hne
      have hmax : ∀ x ∈ p.filter (fun x => decide (x ∉ q)), x ≤ (p.filter (fun x => decide (x ∉ q))).getLast hne := by
        intro x hx
        have hspl := List.dropLast_concat_getLast hne
        rw [← hspl] at hx
        have h3 : Asc ((p.filter (fun x => decide (x ∉ q))).dropLast ++ [(p.filter (fun x => decide (x ∉ q))).getLast hne]) := by rw [hspl]; exact hA
        unfold Asc at h3
        rw [List.pairwise_append] at h3
        rcases List.mem_append.mp hx with hx | hx
        · exact Nat.le_of_lt (h3.2.2 x hx _ (by simp))
        · have := List.mem_singleton.mp hx; omega
      generalize (p.filter (fun x => decide (x ∉ q))).getLast hne = b at hmem hmax
      obtain ⟨hbp, hbq⟩ := List.mem_filter.mp hmem
      have hbq' : b ∉ q := by simpa using hbq
      refine ⟨b, hbp, ⟨asc_wout hp.1 b, fun c hc => ?_⟩, hq, fun x hx => mem_wout.mpr ⟨hs x hx, fun e => hbq' (e ▸ hx)⟩⟩
      obtain ⟨hcp, hcb⟩ := mem_wout.mp hc
      refine ⟨hp.lt c hcp, fun d hd => mem_wout.mpr ⟨(hp.2 c hcp).2 d hd, fun edb => ?_⟩⟩
      have hlt := (tk c).2 d hd
      by_cases hcq : c ∈ q
      · exact hbq' (edb ▸ (hq.2 c hcq).2 d hd)
      · have := hmax c (List.mem_filter.mpr ⟨hcp, by simpa using hcq⟩)
        omega
/-! ### plans -/
structure Plan (t : Tab) (i : Lot × Lot) : Prop where
  dug : Pit t i.1
  opn : Pit t i.2
  within : ∀ x ∈ i.2, x ∈ i.1
/-- what a plan loses -/
def ploss (w r : List Int) (i : Lot × Lot) : Int := wsum r i.2 - (wsum w i.1 + wsum r i.1)
def mem1 (i : Lot × Lot) (x : Nat) : Prop := x ∈ i.1
def mem2 (i : Lot × Lot) (x : Nat) : Prop := x ∈ i.2
/-- the plans whose dug stands in ds -/
def PFam (t : Tab) (ds : List Lot) (i : Lot × Lot) : Prop := i.1 ∈ ds ∧ Plan t i
/-- the plans that are best among those: b what they are worth -/
structure PlanOpt (t : Tab) (w r : List Int) (ds : List Lot) (b : Int) (ld lo md mo : Lot) : Prop where
  d : Opt (PFam t ds) (ploss w r) mem1 (-b) ld md
  o : Opt (PFam t ds) (ploss w r) mem2 (-b) lo mo
/-- the plans of one dug -/
theorem plan_one {t : Tab} {w r : List Int} {d : Lot} (hd : Pit t d) {v : Int} {l m : Lot} (h : OpenOpt t r d v l m) :
    Opt (PFam t [d]) (ploss w r) mem1 (-(wsum w d + wsum r d - v)) d d ∧ Opt (PFam t [d]) (ploss w r) mem2 (-(wsum w d + wsum r d - v)) l m := by
  have e : ∀ i, PFam t [d] i ↔ i.1 = d ∧ Sub t d i.2 := by
    rintro ⟨a, b⟩
    unfold PFam
    rw [List.mem_singleton]
    constructor
    · rintro ⟨e, p⟩
      cases e
      exact ⟨rfl, p.opn, p.within⟩
    · rintro ⟨e, p, q⟩
      cases e
      exact ⟨rfl, hd, p, q⟩
  obtain ⟨q0, hq0, e0⟩ := h.att
  have lowv : ∀ i, PFam t [d] i → -(wsum w d + wsum r d - v) ≤ ploss w r i := fun i hi => by
    obtain ⟨e1, e2⟩ := (e i).mp hi
    have := h.low i.2 e2
    unfold ploss
    rw [e1]
    omega
  have eqv : ∀ i, PFam t [d] i → (ploss w r i = -(wsum w d + wsum r d - v) ↔ wsum r i.2 = v) := fun i hi => by
    obtain ⟨e1, _⟩ := (e i).mp hi
    unfold ploss
    rw [e1]
    constructor <;> intro _ <;> omega
  have h0 : PFam t [d] (d, q0) := (e _).mpr ⟨rfl, hq0⟩
  have h00 := (eqv _ h0).mpr e0
  refine ⟨⟨⟨_, h0, h00⟩, lowv, hd.1, hd.1, fun x => ?_, fun x => ?_⟩, ⟨⟨_, h0, h00⟩, lowv, h.al, h.am, fun x => ?_, fun x => ?_⟩⟩
  · constructor
    · intro hx i hi _
      unfold mem1
      rw [((e i).mp hi).1]; exact hx
    · intro q
      exact q _ h0 h00
  · constructor
    · intro hx; exact ⟨_, h0, h00, hx⟩
    · rintro ⟨i, hi, _, hx⟩
      unfold mem1 at hx
      rw [((e i).mp hi).1] at hx; exact hx
  · rw [h.ml]
    constructor
    · intro q i hi ei
      exact q i.2 ((e i).mp hi).2 ((eqv i hi).mp ei)
    · intro q y hy ey
      have hi : PFam t [d] (d, y) := (e _).mpr ⟨rfl, hy⟩
      exact q _ hi ((eqv _ hi).mpr ey)
  · rw [h.mm]
    constructor
    · rintro ⟨y, hy, ey, hx⟩
      have hi : PFam t [d] (d, y) := (e _).mpr ⟨rfl, hy⟩
      exact ⟨_, hi, (eqv _ hi).mpr ey, hx⟩
    · rintro ⟨i, hi, ei, hx⟩
      exact ⟨i.2, ((e i).mp hi).2, (eqv i hi).mp ei, hx⟩
theorem pfam_snoc {t : Tab} {ds : List Lot} {d : Lot} (i : Lot × Lot) : PFam t (ds ++ [d]) i ↔ PFam t ds i ∨ PFam t [d] i := by
  unfold PFam
  rw [List.mem_append]
  constructor
  · rintro ⟨h | h, p⟩
    · exact .inl ⟨h, p⟩
    · exact .inr ⟨h, p⟩
  · rintro (⟨h, p⟩ | ⟨h, p⟩)
    · exact ⟨.inl h, p⟩
    · exact ⟨.inr h, p⟩
section
variable {t : Tab} {w r : List Int} {ds : List Lot} {d : Lot} {v b : Int} {l m ld lo md mo : Lot}
theorem planOpt_first (hd : Pit t d) (h : OpenOpt t r d v l m) : PlanOpt t w r [d] (wsum w d + wsum r d - v) d l d m := ⟨(plan_one hd h).1, (plan_one hd h).2⟩
theorem PlanOpt.up (p : PlanOpt t w r ds b ld lo md mo) (hd : Pit t d) (h : OpenOpt t r d v l m) (lt : b < wsum w d + wsum r d - v) : PlanOpt t w r (ds ++ [d]) (wsum w d + wsum r d - v) d l d m :=
  ⟨(p.d.less (plan_one hd h).1 (by omega)).iff fun i => (pfam_snoc i).symm, (p.o.less (plan_one hd h).2 (by omega)).iff fun i => (pfam_snoc i).symm⟩
theorem PlanOpt.skip (p : PlanOpt t w r ds b ld lo md mo) (hd : Pit t d) (h : OpenOpt t r d v l m) (lt : wsum w d + wsum r d - v < b) : PlanOpt t w r (ds ++ [d]) b ld lo md mo :=
  ⟨(p.d.more (plan_one hd h).1 (by omega)).iff fun i => (pfam_snoc i).symm, (p.o.more (plan_one hd h).2 (by omega)).iff fun i => (pfam_snoc i).symm⟩
theorem PlanOpt.both (p : PlanOpt t w r ds b ld lo md mo) (hd : Pit t d) (h : OpenOpt t r d v l m) (e : wsum w d + wsum r d - v = b) {ud uo : Lot} (a1 : Asc ud) (m1 : ∀ x, x ∈ ud ↔ x ∈ md ∨ x ∈ d)
    (a2 : Asc uo) (m2 : ∀ x, x ∈ uo ↔ x ∈ mo ∨ x ∈ m) : PlanOpt t w r (ds ++ [d]) b (inter ld d) (inter lo l) ud uo := by
  have q := plan_one (w := w) hd h
  rw [e] at q
  exact ⟨(p.d.same q.1 a1 m1).iff fun i => (pfam_snoc i).symm, (p.o.same q.2 a2 m2).iff fun i => (pfam_snoc i).symm⟩
end
end Pt
end
section
set_option autoImplicit false
namespace Pt
/-! ### the doubled ground -/
def dblN (t : Tab) : Nat → Tab
  | 0 => []
  | b + 1 => dblN t b ++ [(t.getD b []).map (fun a => 2 * a), (t.getD b []).map (fun a => 2 * a + 1) ++ [2 * b]]
def dbl (t : Tab) : Tab := dblN t t.length
def dwN (w r : List Int) : Nat → List Int
  | 0 => []
  | b + 1 => dwN w r b ++ [w.getD b 0 + r.getD b 0, -(r.getD b 0)]
theorem dblN_len (t : Tab) : ∀ n, (dblN t n).length = 2 * n
  | 0 => rfl
  | n + 1 => by show (dblN t n ++ _).length = _; rw [List.length_append, dblN_len t n]; simp; omega
theorem dwN_len (w r : List Int) : ∀ n, (dwN w r n).length = 2 * n
  | 0 => rfl
  | n + 1 => by show (dwN w r n ++ _).length = _; rw [List.length_append, dwN_len w r n]; simp; omega
theorem getD_app {α : Type} (l m : List α) (d : α) (i : Nat) : (l ++ m).getD i d = if i < l.length then l.getD i d else m.getD (i - l.length) d := by
  by_cases h : i < l.length
  · simp [List.getD, h, List.getElem?_append_left]
  · simp [List.getD, h, List.getElem?_append_right (Nat.not_lt.mp h)]
theorem dblN_get (t : Tab) : ∀ (n b : Nat), b < n → (dblN t n).getD (2 * b) [] = (t.getD b []).map (fun a => 2 * a) ∧ (dblN t n).getD (2 * b + 1) [] = (t.getD b []).map (fun a => 2 * a + 1) ++ [2 * b]
  | 0, b, h => by omega
  | n + 1, b, h => by
    show (dblN t n ++ _).getD _ _ = _ ∧ (dblN t n ++ _).getD _ _ = _
    rw [getD_app, getD_app, dblN_len]
    by_cases e : b = n
    · subst e
      rw [if_neg (by omega), if_neg (by omega), Nat.sub_self, show 2 * b + 1 - 2 * b = 1 by omega]
      exact ⟨rfl, rfl⟩
    · rw [if_pos (by omega), if_pos (by omega)]
      exact dblN_get t n b (by omega)
theorem dwN_get (w r : List Int) : ∀ (n b : Nat), b < n → (dwN w r n).getD (2 * b) 0 = w.getD b 0 + r.getD b 0 ∧ (dwN w r n).getD (2 * b + 1) 0 = -(r.getD b 0)
  | 0, b, h => by omega
  | n + 1, b, h => by
    show (dwN w r n ++ _).getD _ _ = _ ∧ (dwN w r n ++ _).getD _ _ = _
    rw [getD_app, getD_app, dwN_len]
    by_cases e : b = n
    · subst e
      rw [if_neg (by omega), if_neg (by omega), Nat.sub_self, show 2 * b + 1 - 2 * b = 1 by omega]
      exact ⟨rfl, rfl⟩
    · rw [if_pos (by omega), if_pos (by omega)]
      exact dwN_get w r n b (by omega)
theorem asc_map {l : Lot} (h : Asc l) (f : Nat → Nat) (hf : ∀ a b, a < b → f a < f b) : Asc (l.map f) := by
  unfold Asc
  rw [List.pairwise_map]
  exact List.Pairwise.imp (fun {a b} hab => hf a b hab) h
theorem dbl_ok {t : Tab} (tk : TabOk t) : TabOk (dbl t) := by
  intro x
  by_cases hx : x < 2 * t.length
  · have hb : x / 2 < t.length := by omega
    have g := dblN_get t t.length (x / 2) hb
    obtain ⟨a1, a2⟩ := tk (x / 2)
    rcases Nat.mod_two_eq_zero_or_one x with e | e
    · have ex : x = 2 * (x / 2) := by omega
      unfold dbl
      rw [ex, g.1]
      refine ⟨asc_map a1 _ (fun a b h => by omega), fun c hc => ?_⟩
      obtain ⟨a, ha, rfl⟩ := List.mem_map.mp hc
      have := a2 a ha
      omega
    · have ex : x = 2 * (x / 2) + 1 := by omega
      unfold dbl
      rw [ex, g.2]
      refine ⟨asc_snoc (asc_map a1 _ (fun a b h => by omega)) fun c hc => ?_, fun c hc => ?_⟩
      · obtain ⟨a, ha, rfl⟩ := List.mem_map.mp hc
        have := a2 a ha
        omega
      · rcases List.mem_append.mp hc with hc | hc
        · obtain ⟨a, ha, rfl⟩ := List.mem_map.mp hc
          have := a2 a ha
          omega
        · have := List.mem_singleton.mp hc; omega
  · have e : (dbl t).getD x [] = [] := by
      unfold dbl
      have hl := dblN_len t t.length
      simp [List.getD, List.getElem?_eq_none (show (dblN t t.length).length ≤ x by omega)]
    rw [e]
    exact ⟨Asc.nil, fun c hc => by simp at hc⟩
/-! ### evens and odds -/
def ev (p : Lot) : Lot := (p.filter fun x => decide (x % 2 = 0)).map fun x => x / 2
def od (p : Lot) : Lot := (p.filter fun x => decide (x % 2 = 1)).map fun x => x / 2
theorem mem_ev {p : Lot} {x : Nat} : x ∈ ev p ↔ 2 * x ∈ p := by
  unfold ev
  rw [List.mem_map]
  constructor
  · rintro ⟨a, ha, rfl⟩
    obtain ⟨h1, h2⟩ := List.mem_filter.mp ha
    have h2 : a % 2 = 0 := by simpa using h2
    rw [show 2 * (a / 2) = a by omega]; exact h1
  · intro h
    exact ⟨2 * x, List.mem_filter.mpr ⟨h, by simp⟩, by omega⟩
theorem mem_od {p : Lot} {x : Nat} : x ∈ od p ↔ 2 * x + 1 ∈ p := by
  unfold od
  rw [List.mem_map]
  constructor
  · rintro ⟨a, ha, rfl⟩
    obtain ⟨h1, h2⟩ := List.mem_filter.mp ha
    have h2 : a % 2 = 1 := by simpa using h2
    rw [show 2 * (a / 2) + 1 = a by omega]; exact h1
  · intro h
    exact ⟨2 * x + 1, List.mem_filter.mpr ⟨h, by simp⟩, by omega⟩
theorem asc_half {l : Lot} (h : Asc l) (k : Nat) (hk : ∀ x ∈ l, x % 2 = k) : Asc (l.map fun x => x / 2) := by
  induction l with
  | nil => exact Asc.nil
  | cons a l ih =>
    obtain ⟨h1, h2⟩ := asc_cons.mp h
    rw [List.map_cons, asc_cons]
    refine ⟨fun x hx => ?_, ih h2 fun x hx => hk x (List.mem_cons_of_mem _ hx)⟩
    obtain ⟨y, hy, rfl⟩ := List.mem_map.mp hx
    have := h1 y hy
    have := hk y (List.mem_cons_of_mem _ hy)
    have := hk a List.mem_cons_self
    omega
theorem asc_ev {p : Lot} (h : Asc p) : Asc (ev p) := asc_half (h.filter _) 0 fun x hx => by simpa using (List.mem_filter.mp hx).2
theorem asc_od {p : Lot} (h : Asc p) : Asc (od p) := asc_half (h.filter _) 1 fun x hx => by simpa using (List.mem_filter.mp hx).2
theorem plan_of_pit {t : Tab} {p : Lot} (h : Pit (dbl t) p) : Plan t (ev p, od p) := by
  have hl : ∀ x ∈ p, x < 2 * t.length := fun x hx => by have := h.lt x hx; unfold dbl at this; rw [dblN_len] at this; exact this
  refine ⟨⟨asc_ev h.1, fun b hb => ?_⟩, ⟨asc_od h.1, fun b hb => ?_⟩, fun b hb => ?_⟩
  · have hb2 := mem_ev.mp hb
    have hbn : b < t.length := by have := hl _ hb2; omega
    refine ⟨hbn, fun c hc => mem_ev.mpr ?_⟩
    apply (h.2 _ hb2).2
    unfold dbl
    rw [(dblN_get t t.length b hbn).1]
    exact List.mem_map.mpr ⟨c, hc, rfl⟩
  · have hb2 := mem_od.mp hb
    have hbn : b < t.length := by have := hl _ hb2; omega
    refine ⟨hbn, fun c hc => mem_od.mpr ?_⟩
    apply (h.2 _ hb2).2
    unfold dbl
    rw [(dblN_get t t.length b hbn).2]
    exact List.mem_append_left _ (List.mem_map.mpr ⟨c, hc, rfl⟩)
  · have hb2 := mem_od.mp hb
    have hbn : b < t.length := by have := hl _ hb2; omega
    apply mem_ev.mpr
    apply (h.2 _ hb2).2
    unfold dbl
    rw [(dblN_get t t.length b hbn).2]
    exact List.mem_append_right _ (by simp)
/-- the lot of a plan in the doubled ground -/
def jn (n : Nat) (i : Lot × Lot) : Lot := (List.range (2 * n)).filter fun x => decide ((x % 2 = 0 ∧ x / 2 ∈ i.1) ∨ (x % 2 = 1 ∧ x / 2 ∈ i.2))
theorem pit_of_plan {t : Tab} {i : Lot × Lot} (h : Plan t i) : Pit (dbl t) (jn t.length i) ∧ ev (jn t.length i) = i.1 ∧ od (jn t.length i) = i.2 := by
  have mj : ∀ x, x ∈ jn t.length i ↔ (x % 2 = 0 ∧ x / 2 ∈ i.1) ∨ (x % 2 = 1 ∧ x / 2 ∈ i.2) := fun x => by
    unfold jn
    rw [List.mem_filter, List.mem_range]
    simp only [decide_eq_true_eq]
    constructor
    · exact fun q => q.2
    · intro q
      refine ⟨?_, q⟩
      rcases q with ⟨_, q⟩ | ⟨_, q⟩
      · have := h.dug.lt _ q; omega
      · have := h.opn.lt _ q; omega
  have aj : Asc (jn t.length i) := (asc_range _).filter _
  refine ⟨⟨aj, fun x hx => ?_⟩, ?_, ?_⟩
  · have hlen : (dbl t).length = 2 * t.length := dblN_len t t.length
    rcases (mj x).mp hx with ⟨e, q⟩ | ⟨e, q⟩
    · have hb := h.dug.lt _ q
      refine ⟨by omega, fun c hc => ?_⟩
      have ex : x = 2 * (x / 2) := by omega
      unfold dbl at hc
      rw [ex, (dblN_get t t.length _ hb).1] at hc
      obtain ⟨a, ha, rfl⟩ := List.mem_map.mp hc
      refine (mj _).mpr (.inl ⟨by omega, ?_⟩)
      rw [show 2 * a / 2 = a by omega]
      exact (h.dug.2 _ q).2 a ha
    · have hb := h.opn.lt _ q
      refine ⟨by omega, fun c hc => ?_⟩
      have ex : x = 2 * (x / 2) + 1 := by omega
      unfold dbl at hc
      rw [ex, (dblN_get t t.length _ hb).2] at hc
      rcases List.mem_append.mp hc with hc | hc
      · obtain ⟨a, ha, rfl⟩ := List.mem_map.mp hc
        refine (mj _).mpr (.inr ⟨by omega, ?_⟩)
        rw [show (2 * a + 1) / 2 = a by omega]
        exact (h.opn.2 _ q).2 a ha
      · have ec := List.mem_singleton.mp hc
        refine (mj _).mpr (.inl ⟨by omega, ?_⟩)
        rw [show c / 2 = x / 2 by omega]
        exact h.within _ q
  · refine Asc.ext (asc_ev aj) h.dug.1 fun x => ?_
    rw [mem_ev, mj]
    constructor
    · rintro (⟨_, q⟩ | ⟨e, _⟩)
      · rw [show 2 * x / 2 = x by omega] at q; exact q
      · omega
    · intro q
      exact .inl ⟨by omega, by rw [show 2 * x / 2 = x by omega]; exact q⟩
  · refine Asc.ext (asc_od aj) h.opn.1 fun x => ?_
    rw [mem_od, mj]
    constructor
    · rintro (⟨e, _⟩ | ⟨_, q⟩)
      · omega
      · rw [show (2 * x + 1) / 2 = x by omega] at q; exact q
    · intro q
      exact .inr ⟨by omega, by rw [show (2 * x + 1) / 2 = x by omega]; exact q⟩
theorem isum_double (n : Nat) (f : Nat → Int) : isum (2 * n) f = isum n fun b => f (2 * b) + f (2 * b + 1) := by
  induction n with
  | zero => rfl
  | succ n ih => rw [show 2 * (n + 1) = 2 * n + 1 + 1 by omega, isum_succ, isum_succ, isum_succ, ih]; omega
/-- a pit of the doubled ground is worth what its plan is -/
theorem wsum_dbl {t : Tab} {w r : List Int} {p : Lot} (h : Pit (dbl t) p) : wsum (dwN w r t.length) p = -(ploss w r (ev p, od p)) := by
  have hl : ∀ x ∈ p, x < 2 * t.length := fun x hx => by have := h.lt x hx; unfold dbl at this; rw [dblN_len] at this; exact this
  have q := plan_of_pit h
  unfold ploss
  rw [wsum_eq h.1 hl, isum_double, wsum_eq q.opn.1 q.opn.lt, wsum_eq q.dug.1 q.dug.lt, wsum_eq (w := r) q.dug.1 q.dug.lt, ← isum_add, ← isum_sub]
  have e : ∀ f : Nat → Int, -(isum t.length f) = isum t.length fun b => 0 - f b := fun f => by rw [isum_sub, isum_const0]; omega
  rw [e]
  apply isum_congr
  intro b hb
  have g := dwN_get w r t.length b hb
  rw [g.1, g.2]
  have m1 := @mem_ev p b
  have m2 := @mem_od p b
  by_cases p1 : 2 * b ∈ p <;> by_cases p2 : 2 * b + 1 ∈ p <;> simp [m1, m2, p1, p2] <;> omega
section
variable {t : Tab} {w r : List Int} {ps : List Lot} {b : Int} {ld lo md mo : Lot}
theorem pfam_pits (h : IsPits t ps) (i : Lot × Lot) : PFam t ps i ↔ Plan t i := by
  unfold PFam
  rw [h.mem]
  exact ⟨fun q => q.2, fun q => ⟨q.dug, q⟩⟩
/-- the best pits of the doubled ground are the best plans -/
theorem best_dbl (h : IsPits t ps) (o : PlanOpt t w r ps b ld lo md mo) {p : Lot} : Best (dbl t) (dwN w r t.length) p ↔ Pit (dbl t) p ∧ wsum (dwN w r t.length) p = b := by
  have low : ∀ q, Pit (dbl t) q → wsum (dwN w r t.length) q ≤ b := fun q hq => by
    have := o.d.low _ ((pfam_pits h _).mpr (plan_of_pit hq))
    rw [wsum_dbl hq]
    omega
  obtain ⟨i, hi, ei⟩ := o.d.att
  obtain ⟨j1, j2, j3⟩ := pit_of_plan ((pfam_pits h i).mp hi)
  have ej : wsum (dwN w r t.length) (jn t.length i) = b := by
    rw [wsum_dbl j1, j2, j3]
    show -(ploss w r i) = b
    omega
  constructor
  · rintro ⟨h1, h2⟩
    refine ⟨h1, ?_⟩
    have := low p h1
    have := h2 _ j1
    omega
  · rintro ⟨h1, h2⟩
    exact ⟨h1, fun m hm => by rw [h2]; exact low m hm⟩
theorem best_plans_iff (h : IsPits t ps) (o : PlanOpt t w r ps b ld lo md mo) {p : Lot} (hp : Best (dbl t) (dwN w r t.length) p) : PFam t ps (ev p, od p) ∧ ploss w r (ev p, od p) = -b := by
  obtain ⟨h1, h2⟩ := (best_dbl h o).mp hp
  have := wsum_dbl (w := w) (r := r) h1
  exact ⟨(pfam_pits h _).mpr (plan_of_pit h1), by omega⟩
theorem best_of_plan (h : IsPits t ps) (o : PlanOpt t w r ps b ld lo md mo) {i : Lot × Lot} (hi : PFam t ps i) (ei : ploss w r i = -b) : ∃ p, Best (dbl t) (dwN w r t.length) p ∧ ev p = i.1 ∧ od p = i.2 := by
  obtain ⟨j1, j2, j3⟩ := pit_of_plan ((pfam_pits h i).mp hi)
  refine ⟨_, (best_dbl h o).mpr ⟨j1, ?_⟩, j2, j3⟩
  rw [wsum_dbl j1, j2, j3]
  show -(ploss w r i) = b
  omega
theorem least_dbl (h : IsPits t ps) (o : PlanOpt t w r ps b ld lo md mo) {p : Lot} (hp : Best (dbl t) (dwN w r t.length) p ∧ ∀ m, Best (dbl t) (dwN w r t.length) m → ∀ x ∈ p, x ∈ m) : ev p = ld ∧ od p = lo := by
  obtain ⟨hb, hmin⟩ := hp
  have q := best_plans_iff h o hb
  refine ⟨Asc.ext (asc_ev hb.1.1) o.d.al fun x => ?_, Asc.ext (asc_od hb.1.1) o.o.al fun x => ?_⟩
  · rw [o.d.ml]
    constructor
    · intro hx i hi ei
      obtain ⟨m, hm, e1, _⟩ := best_of_plan h o hi ei
      show x ∈ i.1
      rw [← e1]
      exact mem_ev.mpr (hmin m hm _ (mem_ev.mp hx))
    · intro f; exact f _ q.1 q.2
  · rw [o.o.ml]
    constructor
    · intro hx i hi ei
      obtain ⟨m, hm, _, e1⟩ := best_of_plan h o hi ei
      show x ∈ i.2
      rw [← e1]
      exact mem_od.mpr (hmin m hm _ (mem_od.mp hx))
    · intro f; exact f _ q.1 q.2
theorem greatest_dbl (h : IsPits t ps) (o : PlanOpt t w r ps b ld lo md mo) {p : Lot} (hp : Best (dbl t) (dwN w r t.length) p ∧ ∀ m, Best (dbl t) (dwN w r t.length) m → ∀ x ∈ m, x ∈ p) : ev p = md ∧ od p = mo := by
  obtain ⟨hb, hmax⟩ := hp
  have q := best_plans_iff h o hb
  refine ⟨Asc.ext (asc_ev hb.1.1) o.d.am fun x => ?_, Asc.ext (asc_od hb.1.1) o.o.am fun x => ?_⟩
  · rw [o.d.mm]
    constructor
    · intro hx; exact ⟨_, q.1, q.2, hx⟩
    · rintro ⟨i, hi, ei, hx⟩
      obtain ⟨m, hm, e1, _⟩ := best_of_plan h o hi ei
      have hx : x ∈ i.1 := hx
      rw [← e1] at hx
      exact mem_ev.mpr (hmax m hm _ (mem_ev.mp hx))
  · rw [o.o.mm]
    constructor
    · intro hx; exact ⟨_, q.1, q.2, hx⟩
    · rintro ⟨i, hi, ei, hx⟩
      obtain ⟨m, hm, _, e1⟩ := best_of_plan h o hi ei
      have hx : x ∈ i.2 := hx
      rw [← e1] at hx
      exact mem_od.mpr (hmax m hm _ (mem_od.mp hx))
end
end Pt
end
section
set_option autoImplicit false
namespace Pt
/-! ### what a block needs, through others too -/
inductive Needs (t : Tab) : Nat → Nat → Prop
  | one {b x : Nat} : x ∈ t.getD b [] → Needs t b x
  | step {b y x : Nat} : y ∈ t.getD b [] → Needs t y x → Needs t b x
theorem Needs.lt {t : Tab} (tk : TabOk t) {b x : Nat} (h : Needs t b x) : x < b := by
  induction h with
  | one h => exact (tk _).2 _ h
  | step h _ ih => have := (tk _).2 _ h; omega
theorem Needs.trans {t : Tab} {b x y : Nat} (h : Needs t b x) (h2 : Needs t x y) : Needs t b y := by
  induction h with
  | one h => exact .step h h2
  | step h _ ih => exact .step h (ih h2)
theorem Pit.needs {t : Tab} {l : Lot} (hl : Pit t l) {b x : Nat} (h : Needs t b x) (hb : b ∈ l) : x ∈ l := by
  induction h with
  | one h => exact (hl.2 _ hb).2 _ h
  | step h _ ih => exact ih ((hl.2 _ hb).2 _ h)
/-- the covers of all blocks, whole -/
structure Told (t : Tab) (cs : List Lot) : Prop where
  len : cs.length = t.length
  mem : ∀ b, b < t.length → ∀ x, x ∈ cs.getD b [] ↔ Needs t b x
/-! ### tables of payments -/
abbrev Pr := Nat × Nat
abbrev Ent := Pr × Int
def alook (kvs : List Ent) (k : Pr) : Option Int := (kvs.find? fun e => decide (e.1 = k)).map (·.2)
def aput (kvs : List Ent) (k : Pr) (v : Int) : List Ent :=
  if (kvs.any fun e => decide (e.1 = k)) = true then kvs.map (fun e => if e.1 = k then (e.1, v) else e) else kvs ++ [(k, v)]
def aget (kvs : List Ent) (k : Pr) : Int := (alook kvs k).getD 0
def NdK (kvs : List Ent) : Prop := (kvs.map (·.1)).Nodup
/-- the sum of those whose key is so -/
def osum (f : Pr → Bool) (kvs : List Ent) : Int := (kvs.map fun e => if f e.1 = true then e.2 else 0).sum
theorem osum_nil (f : Pr → Bool) : osum f [] = 0 := rfl
theorem osum_cons (f : Pr → Bool) (e : Ent) (kvs : List Ent) : osum f (e :: kvs) = (if f e.1 = true then e.2 else 0) + osum f kvs := by unfold osum; rw [List.map_cons, List.sum_cons]
theorem osum_snoc (f : Pr → Bool) (e : Ent) (kvs : List Ent) : osum f (kvs ++ [e]) = osum f kvs + (if f e.1 = true then e.2 else 0) := by
  unfold osum; rw [List.map_append, List.sum_append]; simp
theorem alook_cons (e : Ent) (kvs : List Ent) (k : Pr) : alook (e :: kvs) k = if e.1 = k then some e.2 else alook kvs k := by
  unfold alook
  by_cases h : e.1 = k
  · simp [List.find?, h]
  · simp [List.find?, h]
theorem alook_none {kvs : List Ent} {k : Pr} (h : k ∉ kvs.map (·.1)) : alook kvs k = none := by
  unfold alook
  rw [List.find?_eq_none.mpr]
  · rfl
  · intro e he
    simp
    intro q
    exact h (List.mem_map.mpr ⟨e, he, q⟩)
theorem alook_mem {kvs : List Ent} {k : Pr} {v : Int} (h : alook kvs k = some v) : (k, v) ∈ kvs := by
  unfold alook at h
  cases e : kvs.find? fun e => decide (e.1 = k) with
  | none => rw [e] at h; simp at h
  | some p =>
    rw [e] at h
    simp at h
    have h1 := List.mem_of_find?_eq_some e
    have h2 := List.find?_some e
    simp at h2
    rw [← h, ← h2]
    exact h1
theorem alook_of_mem {kvs : List Ent} (nd : NdK kvs) {k : Pr} {v : Int} (h : (k, v) ∈ kvs) : alook kvs k = some v := by
  induction kvs with
  | nil => simp at h
  | cons e r ih =>
    unfold NdK at nd
    rw [List.map_cons, List.nodup_cons] at nd
    rw [alook_cons]
    rcases List.mem_cons.mp h with q | q
    · rw [← q]; simp
    · have : e.1 ≠ k := fun e1 => nd.1 (List.mem_map.mpr ⟨(k, v), q, e1.symm⟩)
      rw [if_neg this]
      exact ih nd.2 q
theorem any_key (kvs : List Ent) (k : Pr) : (kvs.any fun e => decide (e.1 = k)) = true ↔ k ∈ kvs.map (·.1) := by
  rw [List.any_eq_true, List.mem_map]
  constructor
  · rintro ⟨e, he, q⟩; exact ⟨e, he, by simpa using q⟩
  · rintro ⟨e, he, q⟩; exact ⟨e, he, by simpa using q⟩
theorem keys_upd (kvs : List Ent) (k : Pr) (v : Int) : (kvs.map (fun e => if e.1 = k then (e.1, v) else e)).map (·.1) = kvs.map (·.1) := by
  rw [List.map_map]
  apply List.map_congr_left
  intro e _
  show (if e.1 = k then (e.1, v) else e).1 = e.1
  split <;> rfl
theorem nd_aput {kvs : List Ent} (nd : NdK kvs) (k : Pr) (v : Int) : NdK (aput kvs k v) := by
  unfold aput
  by_cases h : (kvs.any fun e => decide (e.1 = k)) = true
  · rw [if_pos h]
    unfold NdK
    rw [keys_upd]
    exact nd
  · rw [if_neg h]
    have hk : k ∉ kvs.map (·.1) := fun q => h ((any_key kvs k).mpr q)
    unfold NdK
    rw [List.map_append, List.nodup_append]
    refine ⟨nd, by simp, fun a ha b hb e => ?_⟩
    simp at hb
    rw [e, hb] at ha
    exact hk ha
theorem keys_aput {kvs : List Ent} {k j : Pr} {v : Int} : j ∈ (aput kvs k v).map (·.1) ↔ j ∈ kvs.map (·.1) ∨ j = k := by
  unfold aput
  by_cases h : (kvs.any fun e => decide (e.1 = k)) = true
  · rw [if_pos h, keys_upd]
    have hk := (any_key kvs k).mp h
    constructor
    · exact .inl
    · rintro (q | q)
      · exact q
      · rw [q]; exact hk
  · rw [if_neg h, List.map_append, List.mem_append]
    simp
theorem alook_upd {kvs : List Ent} {k j : Pr} {v : Int} (hk : k ∈ kvs.map (·.1)) : alook (kvs.map (fun e => if e.1 = k then (e.1, v) else e)) j = if j = k then some v else alook kvs j := by
  induction kvs with
  | nil => simp at hk
  | cons e r ih =>
    rw [List.map_cons, alook_cons, alook_cons]
    by_cases h1 : e.1 = k
    · rw [if_pos h1]
      by_cases h2 : j = k
      · subst h2
        simp [h1]
      · have h3 : ¬ (e.1 = j) := fun q => h2 (q.symm.trans h1)
        rw [if_neg h2]
        simp only [h3, if_false]
        by_cases h4 : k ∈ r.map (·.1)
        · have := ih h4
          rw [if_neg h2] at this
          exact this
        · have e2 : r.map (fun e => if e.1 = k then (e.1, v) else e) = r := by
            rw [List.map_congr_left (g := id), List.map_id]
            intro x hx
            have : ¬ x.1 = k := fun q => h4 (List.mem_map.mpr ⟨x, hx, q⟩)
            rw [if_neg this]; rfl
          rw [e2]
    · rw [if_neg h1]
      have h4 : k ∈ r.map (·.1) := by
        rw [List.map_cons] at hk
        rcases List.mem_cons.mp hk with q | q
        · exact absurd q.symm h1
        · exact q
      rw [ih h4]
      by_cases h2 : j = k
      · subst h2
        simp [h1]
      · simp [h2]
theorem alook_aput {kvs : List Ent} {k j : Pr} {v : Int} : alook (aput kvs k v) j = if j = k then some v else alook kvs j := by
  unfold aput
  by_cases h : (kvs.any fun e => decide (e.1 = k)) = true
  · rw [if_pos h]
    exact alook_upd ((any_key kvs k).mp h)
  · rw [if_neg h]
    have hk : k ∉ kvs.map (·.1) := fun q => h ((any_key kvs k).mpr q)
    have snoc : ∀ l : List Ent, k ∉ l.map (·.1) → alook (l ++ [(k, v)]) j = if j = k then some v else alook l j := by
      intro l
      induction l with
      | nil =>
        intro _
        rw [List.nil_append, alook_cons]
        by_cases e : j = k
        · subst e; simp
        · have : ¬ (k = j) := fun q => e q.symm
          simp [e, this]
      | cons e r ih =>
        intro hl
        rw [List.map_cons, List.mem_cons] at hl
        rw [List.cons_append, alook_cons, alook_cons, ih (fun q => hl (.inr q))]
        by_cases e1 : e.1 = j
        · have : ¬ (j = k) := fun q => hl (.inl (q.symm.trans e1.symm))
          simp [e1, this]
        · simp [e1]
    exact snoc kvs hk
theorem aget_aput {kvs : List Ent} {k j : Pr} {v : Int} : aget (aput kvs k v) j = if j = k then v else aget kvs j := by
  unfold aget
  rw [alook_aput]
  split <;> rfl
theorem osum_upd {f : Pr → Bool} {kvs : List Ent} (nd : NdK kvs) {k : Pr} {v : Int} (hk : k ∈ kvs.map (·.1)) :
    osum f (kvs.map (fun e => if e.1 = k then (e.1, v) else e)) = osum f kvs + if f k = true then v - aget kvs k else 0 := by
  induction kvs with
  | nil => simp at hk
  | cons e r ih =>
    have nd' := nd
    unfold NdK at nd'
    rw [List.map_cons, List.nodup_cons] at nd'
    rw [List.map_cons, osum_cons, osum_cons]
    by_cases h1 : e.1 = k
    · have h4 : k ∉ r.map (·.1) := fun q => nd'.1 (by rw [h1]; exact q)
      have e2 : r.map (fun e => if e.1 = k then (e.1, v) else e) = r := by
        rw [List.map_congr_left (g := id), List.map_id]
        intro x hx
        have : ¬ x.1 = k := fun q => h4 (List.mem_map.mpr ⟨x, hx, q⟩)
        rw [if_neg this]; rfl
      rw [e2, if_pos h1]
      have e3 : aget (e :: r) k = e.2 := by unfold aget; rw [alook_cons, if_pos h1]; rfl
      rw [e3]
      show (if f e.1 = true then v else 0) + osum f r = _
      rw [h1]
      split <;> omega
    · have h4 : k ∈ r.map (·.1) := by
        rw [List.map_cons] at hk
        rcases List.mem_cons.mp hk with q | q
        · exact absurd q.symm h1
        · exact q
      have e3 : aget (e :: r) k = aget r k := by unfold aget; rw [alook_cons, if_neg h1]
      rw [if_neg h1, ih nd'.2 h4, e3]
      omega
theorem osum_aput {f : Pr → Bool} {kvs : List Ent} (nd : NdK kvs) (k : Pr) (v : Int) : osum f (aput kvs k v) = osum f kvs + if f k = true then v - aget kvs k else 0 := by
  unfold aput
  by_cases h : (kvs.any fun e => decide (e.1 = k)) = true
  · rw [if_pos h]
    exact osum_upd nd ((any_key kvs k).mp h)
  · rw [if_neg h, osum_snoc]
    have hk : k ∉ kvs.map (·.1) := fun q => h ((any_key kvs k).mpr q)
    have : aget kvs k = 0 := by unfold aget; rw [alook_none hk]; rfl
    rw [this]
    show osum f kvs + (if f k = true then v else 0) = _
    split <;> omega
theorem osum_congr {f g : Pr → Bool} {kvs : List Ent} (h : ∀ e ∈ kvs, f e.1 = g e.1) : osum f kvs = osum g kvs := by
  unfold osum
  congr 1
  apply List.map_congr_left
  intro e he
  rw [h e he]
theorem sum_perm {a b : List Int} (h : a.Perm b) : a.sum = b.sum := by
  induction h with
  | nil => rfl
  | cons x _ ih => rw [List.sum_cons, List.sum_cons, ih]
  | swap x y l => rw [List.sum_cons, List.sum_cons, List.sum_cons, List.sum_cons]; omega
  | trans _ _ h1 h2 => exact h1.trans h2
theorem osum_perm {f : Pr → Bool} {a b : List Ent} (h : a.Perm b) : osum f a = osum f b := by
  unfold osum
  exact sum_perm (h.map _)
theorem osum_nonneg {f : Pr → Bool} {kvs : List Ent} (h : ∀ e ∈ kvs, 0 ≤ e.2) : 0 ≤ osum f kvs := by
  induction kvs with
  | nil => exact Int.le_refl _
  | cons e r ih =>
    rw [osum_cons]
    have h1 := ih fun x hx => h x (List.mem_cons_of_mem _ hx)
    have h2 := h e List.mem_cons_self
    split <;> omega
theorem osum_mono {f g : Pr → Bool} {kvs : List Ent} (h : ∀ e ∈ kvs, 0 ≤ e.2) (hfg : ∀ e ∈ kvs, f e.1 = true → g e.1 = true) : osum f kvs ≤ osum g kvs := by
  induction kvs with
  | nil => exact Int.le_refl _
  | cons e r ih =>
    rw [osum_cons, osum_cons]
    have h1 := ih (fun x hx => h x (List.mem_cons_of_mem _ hx)) (fun x hx => hfg x (List.mem_cons_of_mem _ hx))
    have h2 := h e List.mem_cons_self
    by_cases p : f e.1 = true
    · rw [if_pos p, if_pos (hfg e List.mem_cons_self p)]; omega
    · rw [if_neg p]
      split <;> omega
/-- entries that pay nothing may go -/
theorem osum_drop {f : Pr → Bool} {kvs : List Ent} (h : ∀ e ∈ kvs, 0 ≤ e.2) : osum f (kvs.filter fun e => decide (0 < e.2)) = osum f kvs := by
  induction kvs with
  | nil => rfl
  | cons e r ih =>
    have h1 := ih fun x hx => h x (List.mem_cons_of_mem _ hx)
    have h2 := h e List.mem_cons_self
    by_cases p : 0 < e.2
    · rw [List.filter_cons_of_pos (by simpa using p), osum_cons, osum_cons, h1]
    · rw [List.filter_cons_of_neg (by simpa using p), osum_cons, h1]
      have : e.2 = 0 := by omega
      rw [this]
      split <;> omega
/-- by payers, together -/
theorem osum_by {n : Nat} (S : Nat → Bool) (k : Pr → Nat) (f : Pr → Bool) {kvs : List Ent} (h : ∀ e ∈ kvs, k e.1 < n) :
    isum n (fun b => if S b = true then osum (fun p => decide (k p = b) && f p) kvs else 0) = osum (fun p => S (k p) && f p) kvs := by
  induction kvs with
  | nil =>
    rw [osum_nil, isum_congr (g := fun _ => 0), isum_const0]
    intro b _
    rw [osum_nil]
    split <;> rfl
  | cons e r ih =>
    rw [osum_cons, ← ih fun x hx => h x (List.mem_cons_of_mem _ hx)]
    have e1 : isum n (fun b => if b = k e.1 then (if (S (k e.1) && f e.1) = true then e.2 else 0) else 0) = if (S (k e.1) && f e.1) = true then e.2 else 0 := isum_single (h e List.mem_cons_self) _
    rw [← e1, ← isum_add]
    apply isum_congr
    intro b _
    rw [osum_cons]
    by_cases q : b = k e.1
    · subst q
      by_cases s : S (k e.1) = true <;> simp [s]
    · have q' : ¬ (k e.1 = b) := fun x => q x.symm
      simp [q, q']
end Pt
end
section
set_option autoImplicit false
namespace Pt
abbrev wg (w : List Int) (b : Nat) : Int := w.getD b 0
def fst_ (b : Nat) (p : Pr) : Bool := decide (p.1 = b)
def snd_ (b : Nat) (p : Pr) : Bool := decide (p.2 = b)
/-- payments so far, and what each block has left, L -/
structure Flow (t : Tab) (w : List Int) (kvs : List Ent) (L : Nat → Int) : Prop where
  nd : NdK kvs
  pos : ∀ e ∈ kvs, 0 ≤ e.2
  key : ∀ e ∈ kvs, 0 < wg w e.1.1 ∧ wg w e.1.2 < 0 ∧ Needs t e.1.1 e.1.2
  bal : ∀ b, b < t.length → L b = wg w b - osum (fst_ b) kvs + osum (snd_ b) kvs
/-- more can be paid from h on to c -/
def Edge (t : Tab) (w : List Int) (kvs : List Ent) (h c : Nat) : Prop := (0 < wg w h ∧ wg w c < 0 ∧ Needs t h c) ∨ (¬ 0 < wg w h ∧ 0 < aget kvs (c, h))
/-- so much can be -/
def EdgeM (t : Tab) (w : List Int) (kvs : List Ent) (m : Int) (h c : Nat) : Prop := (0 < wg w h ∧ wg w c < 0 ∧ Needs t h c) ∨ (¬ 0 < wg w h ∧ m ≤ aget kvs (c, h))
def upd (w : List Int) (m : Int) (kvs : List Ent) (p : Pr) : List Ent :=
  if 0 < wg w p.1 then aput kvs (p.1, p.2) (aget kvs (p.1, p.2) + m) else aput kvs (p.2, p.1) (aget kvs (p.2, p.1) - m)
theorem mem_aput {kvs : List Ent} {k : Pr} {v : Int} {e : Ent} (h : e ∈ aput kvs k v) : e ∈ kvs ∨ e = (k, v) := by
  unfold aput at h
  split at h
  · obtain ⟨x, hx, q⟩ := List.mem_map.mp h
    split at q
    · rename_i hk
      right; rw [← q, hk]
    · left; rw [← q]; exact hx
  · rcases List.mem_append.mp h with h | h
    · exact .inl h
    · exact .inr (List.mem_singleton.mp h)
theorem aget_pos_mem {kvs : List Ent} {k : Pr} (h : 0 < aget kvs k) : (k, aget kvs k) ∈ kvs := by
  unfold aget at h ⊢
  cases e : alook kvs k with
  | none => rw [e] at h; simp at h
  | some v => exact alook_mem e
theorem Flow.step {t : Tab} {w : List Int} {kvs : List Ent} {L : Nat → Int} (F : Flow t w kvs L) {m : Int} (hm : 0 < m) {h c : Nat} (e : EdgeM t w kvs m h c) :
    Flow t w (upd w m kvs (h, c)) fun b => L b - (if b = h then m else 0) + (if b = c then m else 0) := by
  rcases e with ⟨h1, h2, h3⟩ | ⟨h1, h2⟩
  · have eu : upd w m kvs (h, c) = aput kvs (h, c) (aget kvs (h, c) + m) := if_pos h1
    rw [eu]
    have ag : 0 ≤ aget kvs (h, c) := by
      unfold aget
      cases q : alook kvs (h, c) with
      | none => exact Int.le_refl _
      | some v => exact F.pos _ (alook_mem q)
    refine ⟨nd_aput F.nd _ _, fun x hx => ?_, fun x hx => ?_, fun b hb => ?_⟩
    · rcases mem_aput hx with q | q
      · exact F.pos x q
      · rw [q]; show 0 ≤ _ + m; omega
    · rcases mem_aput hx with q | q
      · exact F.key x q
      · rw [q]; exact ⟨h1, h2, h3⟩
    · rw [osum_aput F.nd, osum_aput F.nd, F.bal b hb]
      unfold fst_ snd_
      simp only [decide_eq_true_eq]
      by_cases p : b = h <;> by_cases q : b = c
      · simp [p.symm, q.symm]; omega
      · have q' : ¬ c = b := fun z => q z.symm
        simp [p.symm, q, q']; omega
      · have p' : ¬ h = b := fun z => p z.symm
        simp [q.symm, p, p']; omega
      · have q' : ¬ c = b := fun z => q z.symm
        have p' : ¬ h = b := fun z => p z.symm
        simp [p, q, p', q']
  · have eu : upd w m kvs (h, c) = aput kvs (c, h) (aget kvs (c, h) - m) := if_neg h1
    rw [eu]
    have hin := aget_pos_mem (kvs := kvs) (k := (c, h)) (by omega)
    refine ⟨nd_aput F.nd _ _, fun x hx => ?_, fun x hx => ?_, fun b hb => ?_⟩
    · rcases mem_aput hx with q | q
      · exact F.pos x q
      · rw [q]; show 0 ≤ _ - m; omega
    · rcases mem_aput hx with q | q
      · exact F.key x q
      · rw [q]; exact (F.key _ hin :)
    · rw [osum_aput F.nd, osum_aput F.nd, F.bal b hb]
      unfold fst_ snd_
      simp only [decide_eq_true_eq]
      by_cases p : b = h <;> by_cases q : b = c
      · simp [p.symm, q.symm]; omega
      · have q' : ¬ c = b := fun z => q z.symm
        simp [p.symm, q, q']; omega
      · have p' : ¬ h = b := fun z => p z.symm
        simp [q.symm, p, p']; omega
      · have q' : ¬ c = b := fun z => q z.symm
        have p' : ¬ h = b := fun z => p z.symm
        simp [p, q, p', q']
/-- the pairs of a way, from its start -/
def prs : List Nat → List Pr
  | x :: y :: r => (x, y) :: prs (y :: r)
  | _ => []
theorem prs_mem : ∀ {xs : List Nat} {h c : Nat}, (h, c) ∈ prs xs → h ∈ xs ∧ c ∈ xs
  | [], _, _, q => by simp [prs] at q
  | [x], _, _, q => by simp [prs] at q
  | x :: y :: r, h, c, q => by
    unfold prs at q
    rcases List.mem_cons.mp q with e | e
    · cases e; simp
    · obtain ⟨a, b⟩ := prs_mem e
      exact ⟨List.mem_cons_of_mem _ a, List.mem_cons_of_mem _ b⟩
theorem aget_upd {w : List Int} {m : Int} {kvs : List Ent} {p j : Pr} (h1 : j ≠ (p.1, p.2)) (h2 : j ≠ (p.2, p.1)) : aget (upd w m kvs p) j = aget kvs j := by
  unfold upd
  split
  · rw [aget_aput, if_neg h1]
  · rw [aget_aput, if_neg h2]
theorem Flow.push {t : Tab} {w : List Int} {m : Int} (hm : 0 < m) : ∀ (r : List Nat) (x : Nat) (kvs : List Ent) (L : Nat → Int), Flow t w kvs L → (x :: r).Nodup → (∀ h c, (h, c) ∈ prs (x :: r) → EdgeM t w kvs m h c) →
    Flow t w ((prs (x :: r)).foldl (upd w m) kvs) fun b => L b - (if b = x then m else 0) + (if b = (x :: r).getLast (by simp) then m else 0)
  | [], x, kvs, L, F, _, _ => by
    have e : (fun b => L b - (if b = x then m else 0) + (if b = [x].getLast (by simp) then m else 0)) = L := by
      funext b
      show L b - (if b = x then m else 0) + (if b = x then m else 0) = L b
      omega
    rw [e]
    exact F
  | y :: r, x, kvs, L, F, nd, he => by
    have F1 := F.step hm (he x y (by unfold prs; exact List.mem_cons_self))
    rw [List.nodup_cons] at nd
    have F2 := Flow.push hm r y _ _ F1 nd.2 (fun h c hc => by
      obtain ⟨q1, q2⟩ := prs_mem hc
      have n1 : x ≠ h := fun z => nd.1 (z ▸ q1)
      have n2 : x ≠ c := fun z => nd.1 (z ▸ q2)
      rcases he h c (by unfold prs; exact List.mem_cons_of_mem _ hc) with z | ⟨z1, z2⟩
      · exact .inl z
      · refine .inr ⟨z1, ?_⟩
        rw [aget_upd]
        · exact z2
        · intro z; cases z; exact n2 rfl
        · intro z; cases z; exact n1 rfl)
    have e : (prs (x :: y :: r)).foldl (upd w m) kvs = (prs (y :: r)).foldl (upd w m) (upd w m kvs (x, y)) := rfl
    rw [e]
    refine ⟨F2.nd, F2.pos, F2.key, fun b hb => ?_⟩
    rw [← F2.bal b hb]
    have e2 : (x :: y :: r).getLast (by simp) = (y :: r).getLast (by simp) := List.getLast_cons (by simp)
    rw [e2]
    omega
/-- what was paid from blocks, and is left -/
structure FlowOk (t : Tab) (w : List Int) (kvs : List Ent) (left : List Int) : Prop where
  len : left.length = t.length
  wlen : w.length = t.length
  core : Flow t w kvs fun b => left.getD b 0
  up : ∀ b, b < t.length → 0 < wg w b → 0 ≤ left.getD b 0
  dn : ∀ b, b < t.length → wg w b < 0 → left.getD b 0 ≤ 0
theorem flow_start {t : Tab} {w : List Int} (h : w.length = t.length) : FlowOk t w [] w :=
  ⟨h, h, ⟨List.Pairwise.nil, fun e he => by simp at he, fun e he => by simp at he, fun b _ => by rw [osum_nil, osum_nil]; show wg w b = _; omega⟩, fun b _ h => Int.le_of_lt h, fun b _ h => Int.le_of_lt h⟩
section
variable {t : Tab} {w : List Int} {kvs : List Ent} {left : List Int}
theorem osum_zero {f : Pr → Bool} {l : List Ent} (h : ∀ e ∈ l, f e.1 = false) : osum f l = 0 := by
  induction l with
  | nil => rfl
  | cons e r ih => rw [osum_cons, ih fun x hx => h x (List.mem_cons_of_mem _ hx), h e List.mem_cons_self]; rfl
theorem FlowOk.pay0 (F : FlowOk t w kvs left) {b : Nat} (h : ¬ 0 < wg w b) : osum (fst_ b) kvs = 0 := osum_zero fun e he => by
  unfold fst_
  apply decide_eq_false
  intro q
  have := (F.core.key e he).1
  rw [q] at this
  exact h this
theorem FlowOk.get0 (F : FlowOk t w kvs left) {b : Nat} (h : ¬ wg w b < 0) : osum (snd_ b) kvs = 0 := osum_zero fun e he => by
  unfold snd_
  apply decide_eq_false
  intro q
  have := (F.core.key e he).2.1
  rw [q] at this
  exact h this
theorem FlowOk.zero (F : FlowOk t w kvs left) {b : Nat} (hb : b < t.length) (h : wg w b = 0) : left.getD b 0 = 0 := by
  have h1 := F.core.bal b hb
  have h2 := F.pay0 (b := b) (by omega)
  have h3 := F.get0 (b := b) (by omega)
  have h1 : left.getD b 0 = wg w b - osum (fst_ b) kvs + osum (snd_ b) kvs := h1
  omega
theorem FlowOk.leftPos (F : FlowOk t w kvs left) {b : Nat} (hb : b < t.length) (h : 0 < left.getD b 0) : 0 < wg w b := by
  by_cases p : 0 < wg w b
  · exact p
  · by_cases q : wg w b < 0
    · have := F.dn b hb q; omega
    · have := F.zero hb (by omega); omega
theorem FlowOk.leftNeg (F : FlowOk t w kvs left) {b : Nat} (hb : b < t.length) (h : left.getD b 0 < 0) : wg w b < 0 := by
  by_cases q : wg w b < 0
  · exact q
  · by_cases p : 0 < wg w b
    · have := F.up b hb p; omega
    · have := F.zero hb (by omega); omega
theorem FlowOk.pays (F : FlowOk t w kvs left) {b : Nat} (hb : b < t.length) : 0 ≤ osum (fst_ b) kvs ∧ osum (fst_ b) kvs ≤ max 0 (wg w b) := by
  refine ⟨osum_nonneg F.core.pos, ?_⟩
  by_cases p : 0 < wg w b
  · have h1 : left.getD b 0 = wg w b - osum (fst_ b) kvs + osum (snd_ b) kvs := F.core.bal b hb
    have := F.get0 (b := b) (by omega)
    have := F.up b hb p
    omega
  · have := F.pay0 p
    omega
theorem FlowOk.gets (F : FlowOk t w kvs left) {b : Nat} (hb : b < t.length) : 0 ≤ osum (snd_ b) kvs ∧ osum (snd_ b) kvs ≤ max 0 (-(wg w b)) := by
  refine ⟨osum_nonneg F.core.pos, ?_⟩
  by_cases p : wg w b < 0
  · have h1 : left.getD b 0 = wg w b - osum (fst_ b) kvs + osum (snd_ b) kvs := F.core.bal b hb
    have := F.pay0 (b := b) (by omega)
    have := F.dn b hb p
    omega
  · have := F.get0 p
    omega
/-- what is left above 0, together -/
def over (n : Nat) (left : List Int) : Int := isum n fun b => max 0 (left.getD b 0)
theorem over_nonneg (n : Nat) (l : List Int) : 0 ≤ over n l := isum_nonneg fun b _ => by omega
/-- a way along which more can be paid, from its start -/
structure Way (t : Tab) (w : List Int) (kvs : List Ent) (left : List Int) (xs : List Nat) : Prop where
  nd : xs.Nodup
  lt : ∀ x ∈ xs, x < t.length
  first : ∃ x r, xs = x :: r ∧ 0 < left.getD x 0
  last : ∃ l z, xs = l ++ [z] ∧ left.getD z 0 < 0
  edge : ∀ h c, (h, c) ∈ prs xs → Edge t w kvs h c
theorem getD_set (l : List Int) (i j : Nat) (v : Int) (hi : i < l.length) : (l.set i v).getD j 0 = if j = i then v else l.getD j 0 := by
  simp only [List.getD, List.getElem?_set]
  by_cases h : i = j
  · subst h; simp [hi]
  · have h' : ¬ j = i := fun q => h q.symm
    simp [h, h']
theorem FlowOk.pay (F : FlowOk t w kvs left) {x z : Nat} {r : List Nat} (W : Way t w kvs left (x :: r)) (hz : (x :: r).getLast (by simp) = z) {m : Int} (hm : 0 < m) (h1 : m ≤ left.getD x 0) (h2 : m ≤ -(left.getD z 0))
    (h3 : ∀ h c, (h, c) ∈ prs (x :: r) → wg w h < 0 → m ≤ aget kvs (c, h)) :
    x ≠ z ∧ FlowOk t w ((prs (x :: r)).foldl (upd w m) kvs) ((left.set x (left.getD x 0 - m)).set z (left.getD z 0 + m)) ∧
      over t.length ((left.set x (left.getD x 0 - m)).set z (left.getD z 0 + m)) = over t.length left - m := by
  have hxz : x ≠ z := fun e => by subst e; omega
  have hx : x < t.length := W.lt x List.mem_cons_self
  have hzm : z ∈ x :: r := by rw [← hz]; exact List.getLast_mem _
  have hzt : z < t.length := W.lt z hzm
  have wx := F.leftPos hx (by omega)
  have wz := F.leftNeg hzt (by omega)
  have hg : ∀ b, ((left.set x (left.getD x 0 - m)).set z (left.getD z 0 + m)).getD b 0 = left.getD b 0 - (if b = x then m else 0) + (if b = z then m else 0) := by
    intro b
    rw [getD_set _ _ _ _ (by rw [List.length_set, F.len]; exact hzt), getD_set _ _ _ _ (by rw [F.len]; exact hx)]
    by_cases p : b = z
    · subst p
      have : ¬ b = x := fun e => hxz e.symm
      simp [this]
    · by_cases q : b = x
      · subst q
        simp [p]
      · simp [p, q]
  have P := Flow.push hm r x kvs _ F.core W.nd fun h c hc => by
    rcases W.edge h c hc with q | ⟨q1, q2⟩
    · exact .inl q
    · refine .inr ⟨q1, ?_⟩
      have hk := (F.core.key _ (aget_pos_mem q2)).2.1
      exact h3 h c hc hk
  refine ⟨hxz, ⟨by rw [List.length_set, List.length_set]; exact F.len, F.wlen, ⟨P.nd, P.pos, P.key, fun b hb => ?_⟩, fun b hb hw => ?_, fun b hb hw => ?_⟩, ?_⟩
  · rw [← P.bal b hb, hz, hg b]
  · rw [hg b]
    have := F.up b hb hw
    have nz : ¬ b = z := fun e => by subst e; omega
    rw [if_neg nz]
    by_cases q : b = x
    · rw [if_pos q, q]; omega
    · rw [if_neg q]; omega
  · rw [hg b]
    have := F.dn b hb hw
    have nx : ¬ b = x := fun e => by subst e; omega
    rw [if_neg nx]
    by_cases q : b = z
    · rw [if_pos q, q]; omega
    · rw [if_neg q]; omega
  · unfold over
    have e1 : m = isum t.length fun b => if b = x then m else 0 := (isum_single hx m).symm
    rw [show isum t.length (fun b => max 0 (left.getD b 0)) - m = isum t.length (fun b => max 0 (left.getD b 0)) - isum t.length (fun b => if b = x then m else 0) by rw [← e1], ← isum_sub]
    apply isum_congr
    intro b hb
    rw [hg b]
    by_cases q : b = x
    · rw [if_pos q, if_neg (fun e => hxz (q.symm.trans e)), q]; omega
    · by_cases p : b = z
      · rw [if_neg q, if_pos p, p]; omega
      · rw [if_neg q, if_neg p]; omega
end
end Pt
end
section
set_option autoImplicit false
namespace Pt
/-! ### no way is left: what payments show -/
/-- all that can be reached from what is left -/
structure Stop (t : Tab) (w : List Int) (kvs : List Ent) (left : List Int) (R : List Nat) : Prop where
  start : ∀ b, b < t.length → 0 < left.getD b 0 → b ∈ R
  sat : ∀ b ∈ R, 0 ≤ left.getD b 0
  clo : ∀ b ∈ R, ∀ c, Edge t w kvs b c → c ∈ R
/-- payments whose payer is in a lot -/
def inP (P : Lot) (b : Nat) (p : Pr) : Bool := decide (p.2 = b) && decide (p.1 ∈ P)
section
variable {t : Tab} {w : List Int} {kvs : List Ent} {left : List Int}
theorem FlowOk.getsP (F : FlowOk t w kvs left) (P : Lot) (b : Nat) : 0 ≤ osum (inP P b) kvs ∧ osum (inP P b) kvs ≤ osum (snd_ b) kvs :=
  ⟨osum_nonneg F.core.pos, osum_mono F.core.pos fun e _ h => by unfold inP at h; unfold snd_; simp at h; simpa using h.1⟩
/-- what a pit falls short by -/
def slack (w : List Int) (kvs : List Ent) (P : Lot) (b : Nat) : Int := if b ∈ P then max 0 (-(wg w b)) - osum (inP P b) kvs else max 0 (wg w b) - osum (fst_ b) kvs
theorem FlowOk.slack_nonneg (F : FlowOk t w kvs left) (P : Lot) {b : Nat} (hb : b < t.length) : 0 ≤ slack w kvs P b := by
  unfold slack
  split
  · have := F.getsP P b
    have := F.gets hb
    omega
  · have := F.pays hb
    omega
theorem lt_of_worth (hw : w.length = t.length) {b : Nat} (h : wg w b ≠ 0) : b < t.length := by
  by_cases p : b < t.length
  · exact p
  · exfalso
    apply h
    show w.getD b 0 = 0
    simp [List.getD, List.getElem?_eq_none (show w.length ≤ b by omega)]
theorem FlowOk.worth (F : FlowOk t w kvs left) {P : Lot} (hP : Pit t P) : isum t.length (slack w kvs P) = isum t.length (fun b => max 0 (wg w b) - osum (fst_ b) kvs) - wsum w P := by
  have k1 : ∀ e ∈ kvs, e.1.1 < t.length := fun e he => lt_of_worth F.wlen (by have := (F.core.key e he).1; omega)
  have k2 : ∀ e ∈ kvs, e.1.2 < t.length := fun e he => lt_of_worth F.wlen (by have := (F.core.key e he).2.1; omega)
  have a1 := osum_by (n := t.length) (fun b => decide (b ∈ P)) (fun p => p.1) (fun _ => true) k1
  have a2 := osum_by (n := t.length) (fun b => decide (b ∈ P)) (fun p => p.2) (fun p => decide (p.1 ∈ P)) k2
  have a3 : osum (fun p => decide (p.1 ∈ P) && true) kvs = osum (fun p => decide (p.2 ∈ P) && decide (p.1 ∈ P)) kvs := osum_congr fun e he => by
    by_cases q : e.1.1 ∈ P
    · have := hP.needs (F.core.key e he).2.2 q
      simp [q, this]
    · simp [q]
  have a4 : isum t.length (fun b => if b ∈ P then osum (fst_ b) kvs else 0) = isum t.length (fun b => if b ∈ P then osum (inP P b) kvs else 0) := by
    refine Eq.trans (Eq.trans ?_ (a1.trans (a3.trans a2.symm))) ?_
    · apply isum_congr
      intro b _
      by_cases q : b ∈ P
      · have e : osum (fst_ b) kvs = osum (fun p => decide (p.1 = b) && true) kvs := osum_congr fun e _ => by unfold fst_; simp
        simp [q, e]
      · simp [q]
    · apply isum_congr
      intro b _
      by_cases q : b ∈ P
      · simp only [q, decide_true, if_true]; rfl
      · simp [q]
  rw [wsum_eq hP.1 hP.lt]
  have a5 : isum t.length (slack w kvs P) = isum t.length (fun b => (max 0 (wg w b) - osum (fst_ b) kvs) - (if b ∈ P then w.getD b 0 else 0) + ((if b ∈ P then osum (fst_ b) kvs else 0) - (if b ∈ P then osum (inP P b) kvs else 0))) := by
    apply isum_congr
    intro b _
    unfold slack
    show _ = (max 0 (wg w b) - osum (fst_ b) kvs) - (if b ∈ P then wg w b else 0) + _
    by_cases q : b ∈ P
    · rw [if_pos q, if_pos q, if_pos q, if_pos q]; omega
    · rw [if_neg q, if_neg q, if_neg q, if_neg q]; omega
  rw [a5, isum_add, isum_sub t.length (fun b => max 0 (wg w b) - osum (fst_ b) kvs) (fun b => if b ∈ P then w.getD b 0 else 0),
    isum_sub t.length (fun b => if b ∈ P then osum (fst_ b) kvs else 0) (fun b => if b ∈ P then osum (inP P b) kvs else 0), a4]
  have e2 : ∀ x y z : Int, x - y + (z - z) = x - y := fun x y z => by omega
  rw [e2]
open Classical in
/-- what shows the cut: the pit of all that is reached -/
theorem cut_pit (tk : TabOk t) (F : FlowOk t w kvs left) {R : List Nat} (S : Stop t w kvs left R) : ∃ P, Pit t P ∧ ∀ b, b < t.length → slack w kvs P b = 0 := by
  let Rp : Nat → Prop := fun b => b ∈ R ∧ 0 < wg w b
  let In : Nat → Prop := fun b => Rp b ∨ ∃ p, Rp p ∧ Needs t p b
  let P : Lot := (List.range t.length).filter fun b => decide (In b)
  have rlt : ∀ b, Rp b → b < t.length := fun b h => lt_of_worth F.wlen (by have := h.2; omega)
  have ilt : ∀ b, In b → b < t.length := fun b h => by
    rcases h with h | ⟨p, h, q⟩
    · exact rlt b h
    · have := rlt p h
      have := q.lt tk
      omega
  have mp : ∀ b, b ∈ P ↔ In b := fun b => by
    show b ∈ (List.range t.length).filter _ ↔ _
    rw [List.mem_filter, List.mem_range]
    simp only [decide_eq_true_eq]
    exact ⟨fun h => h.2, fun h => ⟨ilt b h, h⟩⟩
  refine ⟨P, ⟨(asc_range _).filter _, fun b hb => ⟨ilt b ((mp b).mp hb), fun c hc => (mp c).mpr ?_⟩⟩, fun b hb => ?_⟩
  · rcases (mp b).mp hb with h | ⟨p, h, q⟩
    · exact .inr ⟨b, h, .one hc⟩
    · exact .inr ⟨p, h, q.trans (.one hc)⟩
  · have hbal : left.getD b 0 = wg w b - osum (fst_ b) kvs + osum (snd_ b) kvs := F.core.bal b hb
    unfold slack
    by_cases q : b ∈ P
    · rw [if_pos q]
      have g1 := F.getsP P b
      have g2 := F.gets hb
      by_cases wb : wg w b < 0
      · have hR : b ∈ R := by
          rcases (mp b).mp q with h | ⟨p, h, hn⟩
          · have := h.2; omega
          · exact S.clo p h.1 b (.inl ⟨h.2, wb, hn⟩)
        have h1 := S.sat b hR
        have h2 := F.dn b hb wb
        have h3 := F.pay0 (b := b) (by omega)
        have h4 : osum (inP P b) kvs = osum (snd_ b) kvs := by
          have : ∀ l : List Ent, (∀ e ∈ l, e ∈ kvs) → osum (inP P b) l = osum (snd_ b) l := by
            intro l
            induction l with
            | nil => intro _; rfl
            | cons e r ih =>
              intro hl
              rw [osum_cons, osum_cons, ih fun x hx => hl x (List.mem_cons_of_mem _ hx)]
              have he := hl e List.mem_cons_self
              have hpos := F.core.pos e he
              by_cases e2 : e.1.2 = b
              · by_cases ez : e.2 = 0
                · rw [ez]
                  split <;> split <;> rfl
                · have hk := F.core.key e he
                  have hag : aget kvs (e.1.1, b) = e.2 := by
                    unfold aget
                    rw [alook_of_mem F.core.nd (k := (e.1.1, b)) (v := e.2) (by rw [← e2]; exact he)]
                    rfl
                  have hpr : e.1.1 ∈ R := S.clo b hR e.1.1 (.inr ⟨by omega, by rw [hag]; omega⟩)
                  have hin : e.1.1 ∈ P := (mp _).mpr (.inl ⟨hpr, hk.1⟩)
                  unfold inP snd_
                  simp [e2, hin]
              · unfold inP snd_
                simp [e2]
          exact this kvs fun e he => he
        omega
      · have := F.get0 wb
        omega
    · rw [if_neg q]
      have g := F.pays hb
      by_cases wb : 0 < wg w b
      · have h1 := F.up b hb wb
        have h2 := F.get0 (b := b) (by omega)
        by_cases hl : 0 < left.getD b 0
        · exact absurd ((mp b).mpr (.inl ⟨S.start b hb hl, wb⟩)) q
        · omega
      · omega
/-- behind the last way, the payments show each best pit -/
theorem cut_best (tk : TabOk t) (F : FlowOk t w kvs left) {R : List Nat} (S : Stop t w kvs left R) {P : Lot} (hP : Best t w P) : ∀ b, b < t.length → slack w kvs P b = 0 := by
  obtain ⟨P0, p0, s0⟩ := cut_pit tk F S
  have w0 := F.worth p0
  have w1 := F.worth hP.1
  have := hP.2 P0 p0
  have z : isum t.length (slack w kvs P0) = 0 := by rw [isum_congr s0, isum_const0]
  exact isum_zero_of (fun b hb => F.slack_nonneg P hb) (by omega)
end
/-! ### the payments handed back -/
def PrLt (a b : Pr) : Prop := a.1 < b.1 ∨ (a.1 = b.1 ∧ a.2 < b.2)
structure GoodPay (t : Tab) (w : List Int) (es : List Ent) : Prop where
  asc : es.Pairwise fun a b => PrLt a.1 b.1
  ok : ∀ e ∈ es, 0 < e.2 ∧ 0 < wg w e.1.1 ∧ wg w e.1.2 < 0 ∧ Needs t e.1.1 e.1.2
  pay : ∀ b, b < t.length → osum (fst_ b) es ≤ max 0 (wg w b)
  get : ∀ b, b < t.length → osum (snd_ b) es ≤ max 0 (-(wg w b))
  cut : ∀ P, Best t w P → ∀ b, b < t.length → (b ∈ P → osum (inP P b) es = max 0 (-(wg w b))) ∧ (b ∉ P → osum (fst_ b) es = max 0 (wg w b))
def paidOf (kvs : List Ent) (ks : List Pr) : List Ent := (ks.filter fun k => decide (0 < aget kvs k)).map fun k => (k, aget kvs k)
theorem kvs_self {kvs : List Ent} (nd : NdK kvs) : (kvs.map (·.1)).map (fun k => (k, aget kvs k)) = kvs := by
  rw [List.map_map]
  rw [List.map_congr_left (g := id), List.map_id]
  intro e he
  show (e.1, aget kvs e.1) = e
  have : aget kvs e.1 = e.2 := by unfold aget; rw [alook_of_mem nd (k := e.1) (v := e.2) he]; rfl
  rw [this]
theorem osum_paid {kvs : List Ent} (nd : NdK kvs) (pos : ∀ e ∈ kvs, 0 ≤ e.2) {ks : List Pr} (hp : ks.Perm (kvs.map (·.1))) (f : Pr → Bool) : osum f (paidOf kvs ks) = osum f kvs := by
  have e1 : paidOf kvs ks = (ks.map fun k => (k, aget kvs k)).filter fun e => decide (0 < e.2) := by
    unfold paidOf
    rw [List.filter_map]
    rfl
  have p1 : (ks.map fun k => (k, aget kvs k)).Perm kvs := by
    have := hp.map fun k => (k, aget kvs k)
    rw [kvs_self nd] at this
    exact this
  rw [e1, osum_drop, osum_perm p1]
  intro e he
  exact pos e (p1.mem_iff.mp he)
theorem good_pay {t : Tab} {w : List Int} {kvs : List Ent} {left : List Int} (tk : TabOk t) (F : FlowOk t w kvs left) {R : List Nat} (S : Stop t w kvs left R) {ks : List Pr} (hp : ks.Perm (kvs.map (·.1))) (ho : ks.Pairwise PrLt) : GoodPay t w (paidOf kvs ks) := by
  have os : ∀ f, osum f (paidOf kvs ks) = osum f kvs := fun f => osum_paid F.core.nd F.core.pos hp f
  refine ⟨?_, fun e he => ?_, fun b hb => ?_, fun b hb => ?_, fun P hP b hb => ?_⟩
  · unfold paidOf
    rw [List.pairwise_map]
    exact ho.filter _
  · unfold paidOf at he
    obtain ⟨k, hk, rfl⟩ := List.mem_map.mp he
    have h1 := (List.mem_filter.mp hk).2
    have h1 : 0 < aget kvs k := by simpa using h1
    have := F.core.key _ (aget_pos_mem h1)
    exact ⟨h1, this⟩
  · rw [os]; exact (F.pays hb).2
  · rw [os]; exact (F.gets hb).2
  · have := cut_best tk F S hP b hb
    unfold slack at this
    rw [os, os]
    constructor
    · intro q; rw [if_pos q] at this; omega
    · intro q; rw [if_neg q] at this; omega
end Pt
end
section
set_option autoImplicit false
namespace Pt
/-! ### the search for a way -/
abbrev Came := List (Nat × Option Nat)
abbrev kys (came : Came) : List Nat := came.map (·.1)
/-- came: what has been met, each with where from; the first k have been looked at -/
structure Bfs (t : Tab) (w : List Int) (kvs : List Ent) (left : List Int) (came : Came) (k : Nat) : Prop where
  nd : (kys came).Nodup
  lt : ∀ x ∈ kys came, x < t.length
  start : ∀ b, b < t.length → 0 < left.getD b 0 → b ∈ kys came
  root : ∀ b, (b, none) ∈ came → 0 < left.getD b 0
  par : ∀ (j b h : Nat), came[j]? = some (b, some h) → ∃ i, i < j ∧ (kys came)[i]? = some h ∧ Edge t w kvs h b
  done : ∀ (i b : Nat), i < k → (kys came)[i]? = some b → 0 ≤ left.getD b 0 ∧ ∀ c, Edge t w kvs b c → c ∈ kys came
section
variable {t : Tab} {w : List Int} {kvs : List Ent} {left : List Int} {came : Came} {k : Nat}
theorem Edge.lt (F : FlowOk t w kvs left) {h c : Nat} (e : Edge t w kvs h c) : c < t.length := by
  rcases e with ⟨_, h2, _⟩ | ⟨_, h2⟩
  · exact lt_of_worth F.wlen (by omega)
  · have h3 : 0 < wg w c := (F.core.key _ (aget_pos_mem h2)).1
    exact lt_of_worth F.wlen (by omega)
def over0 (n : Nat) (left : List Int) : List Nat := (List.range n).filter fun b => decide (0 < left.getD b 0)
theorem bfs_start (t : Tab) (w : List Int) (kvs : List Ent) (left : List Int) : Bfs t w kvs left ((over0 t.length left).map fun b => (b, none)) 0 := by
  have ek : kys ((over0 t.length left).map fun b => ((b, none) : Nat × Option Nat)) = over0 t.length left := by
    show List.map _ (List.map _ _) = _
    rw [List.map_map]
    exact List.map_id _
  have mo : ∀ b, b ∈ over0 t.length left ↔ b < t.length ∧ 0 < left.getD b 0 := fun b => by
    unfold over0
    rw [List.mem_filter, List.mem_range]
    simp only [decide_eq_true_eq]
  refine ⟨by rw [ek]; exact ((asc_range _).filter _ : Asc _).nodup, fun x hx => ?_, fun b hb hl => ?_, fun b hb => ?_, fun j b h e => ?_, fun i b hi => by omega⟩
  · rw [ek] at hx; exact ((mo x).mp hx).1
  · rw [ek]; exact (mo b).mpr ⟨hb, hl⟩
  · obtain ⟨x, hx, e⟩ := List.mem_map.mp hb
    cases e
    exact ((mo b).mp hx).2
  · rw [List.getElem?_map] at e
    cases q : (over0 t.length left)[j]? with
    | none => rw [q] at e; simp at e
    | some z => rw [q] at e; simp at e
theorem kys_snoc (came : Came) (e : Nat × Option Nat) : kys (came ++ [e]) = kys came ++ [e.1] := by show List.map _ _ = _; rw [List.map_append]; rfl
theorem getElem?_snoc_lt {α : Type} {l : List α} {a x : α} {i : Nat} (h : l[i]? = some x) : (l ++ [a])[i]? = some x := by
  have hi : i < l.length := (List.getElem?_eq_some_iff.mp h).1
  rw [List.getElem?_append_left hi]
  exact h
theorem Bfs.add (B : Bfs t w kvs left came k) (hk : k < came.length) {here c : Nat} (hh : (kys came)[k]? = some here) (e : Edge t w kvs here c) (hc : c < t.length) (hn : c ∉ kys came) : Bfs t w kvs left (came ++ [(c, some here)]) k := by
  refine ⟨?_, fun x hx => ?_, fun b hb hl => ?_, fun b hb => ?_, fun j b h ej => ?_, fun i b hi ei => ?_⟩
  · rw [kys_snoc, List.nodup_append]
    refine ⟨B.nd, by simp, fun a ha b hb e => ?_⟩
    simp at hb
    rw [e, hb] at ha
    exact hn ha
  · rw [kys_snoc, List.mem_append] at hx
    rcases hx with hx | hx
    · exact B.lt x hx
    · rw [List.mem_singleton.mp hx]; exact hc
  · rw [kys_snoc]; exact List.mem_append_left _ (B.start b hb hl)
  · rcases List.mem_append.mp hb with hb | hb
    · exact B.root b hb
    · have := List.mem_singleton.mp hb
      cases this
  · by_cases hj : j < came.length
    · rw [List.getElem?_append_left hj] at ej
      obtain ⟨i, h1, h2, h3⟩ := B.par j b h ej
      exact ⟨i, h1, by rw [kys_snoc]; exact getElem?_snoc_lt h2, h3⟩
    · have hj2 : j = came.length := by
        have := (List.getElem?_eq_some_iff.mp ej).1
        rw [List.length_append, List.length_singleton] at this
        omega
      subst hj2
      rw [List.getElem?_append_right (Nat.le_refl _), Nat.sub_self] at ej
      simp at ej
      obtain ⟨rfl, rfl⟩ := ej
      exact ⟨k, hk, by rw [kys_snoc]; exact getElem?_snoc_lt hh, e⟩
  · rw [kys_snoc] at ei ⊢
    have hi2 : i < (kys came).length := by rw [List.length_map]; omega
    rw [List.getElem?_append_left hi2] at ei
    obtain ⟨h1, h2⟩ := B.done i b hi ei
    exact ⟨h1, fun c hc => List.mem_append_left _ (h2 c hc)⟩
theorem Bfs.next (B : Bfs t w kvs left came k) {here : Nat} (hh : (kys came)[k]? = some here) (h1 : 0 ≤ left.getD here 0) (h2 : ∀ c, Edge t w kvs here c → c ∈ kys came) : Bfs t w kvs left came (k + 1) :=
  ⟨B.nd, B.lt, B.start, B.root, B.par, fun i b hi ei => by
    by_cases q : i = k
    · subst q
      rw [hh] at ei
      cases ei
      exact ⟨h1, h2⟩
    · exact B.done i b (by omega) ei⟩
theorem Bfs.stop (B : Bfs t w kvs left came came.length) : Stop t w kvs left (kys came) := by
  have all : ∀ b ∈ kys came, 0 ≤ left.getD b 0 ∧ ∀ c, Edge t w kvs b c → c ∈ kys came := fun b hb => by
    obtain ⟨i, hi, e⟩ := List.mem_iff_getElem.mp hb
    exact B.done i b (by rw [List.length_map] at hi; exact hi) (by rw [List.getElem?_eq_getElem hi, e])
  exact ⟨B.start, fun b hb => (all b hb).1, fun b hb => (all b hb).2⟩
/-- pigeons -/
theorem nd_len : ∀ (n : Nat) (l : List Nat), l.Nodup → (∀ x ∈ l, x < n) → l.length ≤ n
  | 0, l, _, h => by
    cases l with
    | nil => exact Nat.le_refl _
    | cons a l => have := h a List.mem_cons_self; omega
  | n + 1, l, nd, h => by
    have h1 := nd_len n (l.filter fun x => decide (x ≠ n)) (nd.filter _) fun x hx => by
      obtain ⟨p, q⟩ := List.mem_filter.mp hx
      have q : x ≠ n := by simpa using q
      have := h x p
      omega
    have h2 : ∀ l : List Nat, l.Nodup → l.length ≤ (l.filter fun x => decide (x ≠ n)).length + 1 := by
      intro l
      induction l with
      | nil => intro _; simp
      | cons a r ih =>
        intro hn
        rw [List.nodup_cons] at hn
        by_cases q : a = n
        · have e : (r.filter fun x => decide (x ≠ n)) = r := by
            apply List.filter_eq_self.mpr
            intro x hx
            have : x ≠ n := fun e => hn.1 (by rw [q, ← e]; exact hx)
            simpa using this
          rw [List.filter_cons_of_neg (by simpa using q), e, List.length_cons]
          exact Nat.le_refl _
        · rw [List.filter_cons_of_pos (by simpa using q), List.length_cons, List.length_cons]
          have := ih hn.2
          omega
    have := h2 l nd
    omega
theorem Bfs.le (B : Bfs t w kvs left came k) : came.length ≤ t.length := by
  have := nd_len t.length (kys came) B.nd B.lt
  rw [List.length_map] at this
  exact this
/-! ### the way back -/
/-- found: blocks from the end back, the last one met at place j -/
structure Trail (t : Tab) (w : List Int) (kvs : List Ent) (came : Came) (found : List Nat) (x j : Nat) : Prop where
  spl : ∃ init, found = init ++ [x] ∧ ∀ y ∈ init, ∃ i, j < i ∧ (kys came)[i]? = some y
  at_ : (kys came)[j]? = some x
  nd : found.Nodup
  edge : ∀ h c, (h, c) ∈ prs found.reverse → Edge t w kvs h c
theorem trail_start {x j : Nat} (h : (kys came)[j]? = some x) : Trail t w kvs came [x] x j := ⟨⟨[], rfl, fun y hy => by simp at hy⟩, h, by simp, fun h c hc => by simp [prs] at hc⟩
theorem get_came (B : Bfs t w kvs left came k) {x j : Nat} {o : Option Nat} (h : (kys came)[j]? = some x) (ho : (x, o) ∈ came) : came[j]? = some (x, o) := by
  obtain ⟨i, hi, e⟩ := List.mem_iff_getElem.mp ho
  have e2 : (kys came)[i]? = some x := by rw [List.getElem?_map, List.getElem?_eq_getElem hi, e]; rfl
  have hj : j < (kys came).length := (List.getElem?_eq_some_iff.mp h).1
  have hi' : i < (kys came).length := (List.getElem?_eq_some_iff.mp e2).1
  have : i = j := (List.getElem?_inj hi' B.nd).mp (e2.trans h.symm)
  subst this
  rw [List.getElem?_eq_getElem hi, e]
theorem Trail.up (B : Bfs t w kvs left came k) {found : List Nat} {x j h : Nat} (T : Trail t w kvs came found x j) (hx : (x, some h) ∈ came) : ∃ i, i < j ∧ Trail t w kvs came (found ++ [h]) h i := by
  obtain ⟨i, h1, h2, h3⟩ := B.par j x h (get_came B T.at_ hx)
  obtain ⟨init, hf, hi⟩ := T.spl
  have later : ∀ y ∈ found, ∃ i', i < i' ∧ (kys came)[i']? = some y := fun y hy => by
    rw [hf] at hy
    rcases List.mem_append.mp hy with hy | hy
    · obtain ⟨i', p, q⟩ := hi y hy
      exact ⟨i', by omega, q⟩
    · rw [List.mem_singleton.mp hy]
      exact ⟨j, h1, T.at_⟩
  refine ⟨i, h1, ⟨found, rfl, later⟩, h2, ?_, fun a c hc => ?_⟩
  · rw [List.nodup_append]
    refine ⟨T.nd, by simp, fun a ha b hb e => ?_⟩
    have hb := List.mem_singleton.mp hb
    rw [e, hb] at ha
    obtain ⟨i', p, q⟩ := later h ha
    have hi' : i < (kys came).length := (List.getElem?_eq_some_iff.mp h2).1
    have : i = i' := (List.getElem?_inj hi' B.nd).mp (h2.trans q.symm)
    omega
  · rw [hf, List.reverse_append, List.reverse_append] at hc
    simp only [List.reverse_cons, List.reverse_nil, List.nil_append, List.singleton_append] at hc
    unfold prs at hc
    rcases List.mem_cons.mp hc with e | e
    · cases e; exact h3
    · refine T.edge a c ?_
      rw [hf, List.reverse_append]
      exact e
theorem Trail.way (B : Bfs t w kvs left came k) {found : List Nat} {x j here : Nat} {r : List Nat} (T : Trail t w kvs came found x j) (hx : (x, none) ∈ came) (hf : found = here :: r) (hl : left.getD here 0 < 0) : Way t w kvs left found.reverse := by
  obtain ⟨init, e, hi⟩ := T.spl
  refine ⟨(List.pairwise_reverse.mpr (T.nd.imp fun h => h.symm) : List.Nodup _), fun y hy => ?_, ⟨x, init.reverse, by rw [e, List.reverse_append]; rfl, B.root x hx⟩, ⟨r.reverse, here, by rw [hf, List.reverse_cons], hl⟩, T.edge⟩
  rw [List.mem_reverse, e] at hy
  rcases List.mem_append.mp hy with hy | hy
  · obtain ⟨i, _, q⟩ := hi y hy
    exact B.lt y (List.mem_of_getElem? q)
  · rw [List.mem_singleton.mp hy]
    exact B.lt x (List.mem_of_getElem? T.at_)
end
/-! ### the pairs of a way by places -/
theorem prs_len : ∀ xs : List Nat, (prs xs).length = xs.length - 1
  | [] => rfl
  | [x] => rfl
  | x :: y :: r => by unfold prs; rw [List.length_cons, prs_len (y :: r)]; simp
theorem prs_get : ∀ (xs : List Nat) (i : Nat), i + 1 < xs.length → (prs xs)[i]? = some (xs.getD i 0, xs.getD (i + 1) 0)
  | [], i, h => by simp at h
  | [x], i, h => by simp at h
  | x :: y :: r, 0, _ => by unfold prs; simp
  | x :: y :: r, i + 1, h => by
    unfold prs
    rw [List.getElem?_cons_succ, prs_get (y :: r) i (by simpa using h)]
    simp
end Pt
end
section
set_option Elab.async false
set_option linter.all false
set_option maxRecDepth 100000
set_option maxHeartbeats 4000000
namespace Pz
open PySem PySem.Spec PyProof.Rows L2
/-! ### readings chosen at the entry -/
def RE (X : Cx) (e : Expr) : TE := fun σ H Q => ∃ t, PE X e t ∧ t σ H Q
def RT (X : Cx) (e : Expr) : TT := fun σ H Q => ∃ t, PT X e t ∧ t σ H Q
def RW (X : Cx) (e : Expr) : TT := fun σ H Q => ∃ t, PW X e t ∧ t σ H Q
def RA (X : Cx) (es : List Expr) : TA := fun σ H Q => ∃ t, PA X es t ∧ t σ H Q
def RS (X : Cx) (st : Stmt) : TS := fun D σ H => ∃ t, PS X st t ∧ t D σ H
def RSs (X : Cx) (st : List Stmt) : TS := fun D σ H => ∃ t, PSs X st t ∧ t D σ H
def RG (X : Cx) (tg : Expr) : TG := fun v σ H Q => ∃ t, PG X tg t ∧ t v σ H Q
def RI (X : Cx) (tg it : Expr) : TI := fun σ H R => ∃ t, PI X tg it t ∧ t σ H R
section
variable {X : Cx} {e : Expr} {es : List Expr} {st : Stmt} {sts : List Stmt} {tg : Expr}
theorem re_pe : PE X e (RE X e) := ⟨fun pins s σ H Q I ⟨t, h, q⟩ => h.run pins s σ H Q I q⟩
theorem rt_pt : PT X e (RT X e) := ⟨fun pins s σ H Q I ⟨t, h, q⟩ => h.run pins s σ H Q I q⟩
theorem rw_pw : PW X e (RW X e) := ⟨fun wh pins s σ H Q I ⟨t, h, q⟩ => h.run wh pins s σ H Q I q⟩
theorem ra_pa : PA X es (RA X es) := ⟨fun pos pins s σ H Q I ⟨t, h, q⟩ => h.run pos pins s σ H Q I q⟩
theorem rs_ps : PS X st (RS X st) := ⟨fun pins s σ H D I ⟨t, h, q⟩ => h.run pins s σ H D I q⟩
theorem rss_pss : PSs X sts (RSs X sts) := ⟨fun pins s σ H D I ⟨t, h, q⟩ => h.run pins s σ H D I q⟩
theorem rg_pg : PG X tg (RG X tg) := ⟨fun pins s σ H v u Q I r ⟨t, h, q⟩ => h.run pins s σ H v u Q I r q⟩
theorem ri_pi : PI X tg e (RI X tg e) := ⟨fun pins s σ H R I ⟨t, h, q⟩ => h.run pins s σ H R I q⟩
end
/-! ### heaps that have grown -/
def Mon (P : V → Hp → Prop) : Prop := ∀ v H H', Same H H' → P v H → P v H'
def MonA (P : List V → Hp → Prop) : Prop := ∀ v H H', Same H H' → P v H → P v H'
theorem same_new {H : Hp} {p : Addr} {o : HO} (h : H p = none) : Same H (upd H p o) := fun b u e => by rw [upd_ne (ne_of_none e h)]; exact e
theorem mon_eq (v : V) : Mon (fun u _ => u = v) := fun _ _ _ _ h => h
/-! ### evaluations that only make objects: the value is told by P -/
def CP (X : Cx) (e : Expr) (σ : L2.St) (H : Hp) (P : V → Hp → Prop) : Prop := ∀ H1, Same H H1 → ∀ Q : VK, (∀ v H2, Same H1 H2 → P v H2 → Q v H2) → RE X e σ H1 Q
def CT (X : Cx) (e : Expr) (σ : L2.St) (H : Hp) (b : Bool) : Prop := ∀ H1, Same H H1 → ∀ Q : Bool → Hp → Prop, (∀ H2, Same H1 H2 → Q b H2) → RT X e σ H1 Q
def CW (X : Cx) (e : Expr) (σ : L2.St) (H : Hp) (b : Bool) : Prop := ∀ H1, Same H H1 → ∀ Q : Bool → Hp → Prop, (∀ H2, Same H1 H2 → Q b H2) → RW X e σ H1 Q
def CA (X : Cx) (es : List Expr) (σ : L2.St) (H : Hp) (P : List V → Hp → Prop) : Prop := ∀ H1, Same H H1 → ∀ Q : List V → Hp → Prop, (∀ vs H2, Same H1 H2 → P vs H2 → Q vs H2) → RA X es σ H1 Q
abbrev CV (X : Cx) (e : Expr) (σ : L2.St) (H : Hp) (v : V) : Prop := CP X e σ H (fun u _ => u = v)
section
variable {X : Cx} {e a b c : Expr} {es rest : List Expr} {σ : L2.St} {H H' : Hp} {P Pa Pb : V → Hp → Prop} {v x y z : V} {pos p : Pos}
theorem CP.mono (s : Same H H') (h : CP X e σ H P) : CP X e σ H' P := fun H1 s1 Q k => h H1 (s.trans s1) Q k
theorem CT.mono {k : Bool} (s : Same H H') (h : CT X e σ H k) : CT X e σ H' k := fun H1 s1 Q q => h H1 (s.trans s1) Q q
theorem CP.imp {P' : V → Hp → Prop} (h : CP X e σ H P) (f : ∀ v H1, Same H H1 → P v H1 → P' v H1) : CP X e σ H P' := fun H1 s1 Q k => h H1 s1 Q fun v H2 s2 p => k v H2 s2 (f v H2 (s1.trans s2) p)
theorem CT.to {k k' : Bool} (h : CT X e σ H k) (f : k = k') : CT X e σ H k' := by subst f; exact h
theorem CP.run {Q : VK} (h : CP X e σ H P) (k : ∀ v H2, Same H H2 → P v H2 → Q v H2) : RE X e σ H Q := h H (Same.refl H) Q k
/-- by a reading that changes nothing -/
theorem cp_of {t : TE} (h : PE X e t) (q : ∀ H1, Same H H1 → ∀ Q : VK, (∀ v H2, Same H1 H2 → P v H2 → Q v H2) → t σ H1 Q) : CP X e σ H P := fun H1 s1 Q k => ⟨t, h, q H1 s1 Q k⟩
theorem cv_of {t : TE} (h : PE X e t) (q : ∀ H1, Same H H1 → ∀ Q : VK, Q v H1 → t σ H1 Q) : CV X e σ H v := fun H1 s1 Q k => ⟨t, h, q H1 s1 Q (k v H1 (Same.refl _) rfl)⟩
theorem cv_var (i : Nat) {n : Str} (hs : σ[i]? = some (some v)) (hN : X.N[i]? = some n := by rfl) (hv : Vis X.env.scope n := by first | exact Or.inl rfl | exact Or.inr (Or.inl rfl) | exact Or.inr (Or.inr rfl))
    (hd : (n == ("__debug__" : Str)) = false := by decide) (hcd : (n == ("__classdict__" : Str)) = false := by decide) : CV X (.Name n pos) σ H v :=
  cv_of (pe_var hN hv hd hcd) fun H1 _ Q q => ⟨v, hs, q⟩
theorem cv_int {i : Int} {j : Nat} : CV X (.Constant (.int i) j pos) σ H (.int i) := cv_of pe_int fun _ _ _ q => q
theorem cv_bl {k : Bool} {j : Nat} : CV X (.Constant (.bool k) j pos) σ H (.bl k) := cv_of pe_bl fun _ _ _ q => q
theorem cv_non {j : Nat} : CV X (.Constant .none j pos) σ H .non := cv_of pe_non fun _ _ _ q => q
theorem cv_str {s : Str} {j : Nat} : CV X (.Constant (.str s) j pos) σ H (.str s) := cv_of pe_str fun _ _ _ q => q
theorem cv_glob {n : Str} {u : Value} (hg : Gl X n) (hm : X.mg n = some u) (r : RelV v u) (hd : (n == ("__debug__" : Str)) = false := by decide) : CV X (.Name n pos) σ H v := cv_of (pe_glob hg hm r hd) fun _ _ _ q => q
theorem cv_blt {n : Str} {u : Value} (hg : Gl X n) (hm : X.mg n = none) (hv : bootBuiltins n = some u) (r : RelV v u) (hn : n ≠ "__name__" := by decide) (hd : (n == ("__debug__" : Str)) = false := by decide) : CV X (.Name n pos) σ H v :=
  cv_of (pe_bltn hg hm hv r hn hd) fun _ _ _ q => q
/-- two values, one behind the other -/
theorem two {Q : VK} {r : V → V → Hp → VK → Prop} (ha : CP X a σ H Pa) (hb : CP X b σ H Pb) (ma : Mon Pa) {H1 : Hp} (s1 : Same H H1)
    (q : ∀ x y H2, Same H1 H2 → Pa x H2 → Pb y H2 → r x y H2 Q) : RE X a σ H1 (fun x H2 => RE X b σ H2 fun y H3 => r x y H3 Q) :=
  ha H1 s1 _ fun x H2 s2 px => hb H2 (s1.trans s2) _ fun y H3 s3 py => q x y H3 (s2.trans s3) (ma x H2 H3 s3 px) py
theorem cp_op {op : Operator} {r : R2} (ho : OpR X (binaryOp op) r) (ha : CP X a σ H Pa) (hb : CP X b σ H Pb) (ma : Mon Pa)
    (h : ∀ x y H1, Same H H1 → Pa x H1 → Pb y H1 → ∀ Q : VK, (∀ v H2, Same H1 H2 → P v H2 → Q v H2) → r x y H1 Q) : CP X (.BinOp a op b pos) σ H P := fun H1 s1 Q k =>
  ⟨_, pe_op ho re_pe re_pe, two ha hb ma s1 fun x y H2 s2 px py => h x y H2 (s1.trans s2) px py Q fun v H3 s3 p => k v H3 (s2.trans s3) p⟩
theorem cv_add {i j : Int} (ha : CV X a σ H (.int i)) (hb : CV X b σ H (.int j)) : CV X (.BinOp a .Add b pos) σ H (.int (i + j)) :=
  cp_op op_add ha hb (mon_eq _) fun x y H1 _ px py Q k => by subst px py; exact ⟨_, _, rfl, rfl, k _ _ (Same.refl _) rfl⟩
theorem cv_sub {i j : Int} (ha : CV X a σ H (.int i)) (hb : CV X b σ H (.int j)) : CV X (.BinOp a .Sub b pos) σ H (.int (i - j)) :=
  cp_op op_sub ha hb (mon_eq _) fun x y H1 _ px py Q k => by subst px py; exact ⟨_, _, rfl, rfl, k _ _ (Same.refl _) rfl⟩
theorem cv_mul {i j : Int} (ha : CV X a σ H (.int i)) (hb : CV X b σ H (.int j)) (hc : CMul i j) : CV X (.BinOp a .Mult b pos) σ H (.int (i * j)) :=
  cp_op op_mul ha hb (mon_eq _) fun x y H1 _ px py Q k => by subst px py; exact ⟨_, _, rfl, rfl, hc, k _ _ (Same.refl _) rfl⟩
theorem cv_div {i j : Int} (ha : CV X a σ H (.int i)) (hb : CV X b σ H (.int j)) (hc : CDiv i j) : CV X (.BinOp a .FloorDiv b pos) σ H (.int (i / j)) :=
  cp_op op_fdiv ha hb (mon_eq _) fun x y H1 _ px py Q k => by subst px py; exact ⟨_, _, rfl, rfl, hc, k _ _ (Same.refl _) rfl⟩
theorem cv_mod {i j : Int} (ha : CV X a σ H (.int i)) (hb : CV X b σ H (.int j)) (hc : 0 < j) : CV X (.BinOp a .Mod b pos) σ H (.int (i % j)) :=
  cp_op op_mod ha hb (mon_eq _) fun x y H1 _ px py Q k => by subst px py; exact ⟨_, _, rfl, rfl, hc, k _ _ (Same.refl _) rfl⟩
theorem cv_pow {i j : Int} (ha : CV X a σ H (.int i)) (hb : CV X b σ H (.int j)) (hc : CPow i j) : CV X (.BinOp a .Pow b pos) σ H (.int (i ^ j.toNat)) :=
  cp_op op_pow ha hb (mon_eq _) fun x y H1 _ px py Q k => by subst px py; exact ⟨_, _, rfl, rfl, hc, k _ _ (Same.refl _) rfl⟩
theorem cv_neg {i : Int} (ha : CV X a σ H (.int i)) : CV X (.UnaryOp .USub a pos) σ H (.int (-i)) := fun H1 s1 Q k =>
  ⟨_, pe_un un_neg re_pe, ha H1 s1 _ fun x H2 s2 px => by subst px; exact ⟨_, rfl, k _ _ s2 rfl⟩⟩
/-! comparisons -/
theorem cp_cmp {op : CmpOp} {r : R2} (ho : OpR X (compareOp op) r) (ha : CP X a σ H Pa) (hb : CP X b σ H Pb) (ma : Mon Pa) (hm : behindInMarks op b = false)
    (h : ∀ x y H1, Same H H1 → Pa x H1 → Pb y H1 → ∀ Q : VK, (∀ v H2, Same H1 H2 → P v H2 → Q v H2) → r x y H1 Q) : CP X (.Compare a [op] [b] pos) σ H P := fun H1 s1 Q k =>
  ⟨_, pe_cmpR ho re_pe re_pe hm, two ha hb ma s1 fun x y H2 s2 px py => h x y H2 (s1.trans s2) px py Q fun v H3 s3 p => k v H3 (s2.trans s3) p⟩
theorem ct_cmp {op : CmpOp} {r : R2} {k : Bool} (ho : OpR X (compareOp op) r) (ha : CP X a σ H Pa) (hb : CP X b σ H Pb) (ma : Mon Pa) (hm : behindInMarks op b = false)
    (h : ∀ x y H1, Same H H1 → Pa x H1 → Pb y H1 → ∀ Q : VK, (∀ H2, Same H1 H2 → Q (.bl k) H2) → r x y H1 Q) : CT X (.Compare a [op] [b] pos) σ H k := fun H1 s1 Q q =>
  ⟨_, pt_cmpR ho re_pe re_pe hm, two ha hb ma s1 fun x y H2 s2 px py => h x y H2 (s1.trans s2) px py _ fun H3 s3 => ⟨k, rfl, q H3 (s2.trans s3)⟩⟩
theorem cv_lt {i j : Int} (ha : CV X a σ H (.int i)) (hb : CV X b σ H (.int j)) : CV X (.Compare a [.Lt] [b] pos) σ H (.bl (decide (i < j))) :=
  cp_cmp op_lt ha hb (mon_eq _) (nomark _) fun x y H1 _ px py Q k => by subst px py; exact ⟨_, _, rfl, rfl, k _ _ (Same.refl _) rfl⟩
theorem ct_lt {i j : Int} (ha : CV X a σ H (.int i)) (hb : CV X b σ H (.int j)) : CT X (.Compare a [.Lt] [b] pos) σ H (decide (i < j)) :=
  ct_cmp op_lt ha hb (mon_eq _) (nomark _) fun x y H1 _ px py Q k => by subst px py; exact ⟨_, _, rfl, rfl, k _ (Same.refl _)⟩
theorem cv_le {i j : Int} (ha : CV X a σ H (.int i)) (hb : CV X b σ H (.int j)) : CV X (.Compare a [.LtE] [b] pos) σ H (.bl (decide (i ≤ j))) :=
  cp_cmp op_le ha hb (mon_eq _) (nomark _) fun x y H1 _ px py Q k => by subst px py; exact ⟨_, _, rfl, rfl, k _ _ (Same.refl _) rfl⟩
theorem ct_gt {i j : Int} (ha : CV X a σ H (.int i)) (hb : CV X b σ H (.int j)) : CT X (.Compare a [.Gt] [b] pos) σ H (decide (j < i)) :=
  ct_cmp op_gt ha hb (mon_eq _) (nomark _) fun x y H1 _ px py Q k => by subst px py; exact ⟨_, _, rfl, rfl, k _ (Same.refl _)⟩
theorem ct_ge {i j : Int} (ha : CV X a σ H (.int i)) (hb : CV X b σ H (.int j)) : CT X (.Compare a [.GtE] [b] pos) σ H (decide (j ≤ i)) :=
  ct_cmp op_ge ha hb (mon_eq _) (nomark _) fun x y H1 _ px py Q k => by subst px py; exact ⟨_, _, rfl, rfl, k _ (Same.refl _)⟩
/-- ==, != of scalars -/
theorem ct_eq (ha : CV X a σ H x) (hb : CV X b σ H y) (hs : scal x y = true) : CT X (.Compare a [.Eq] [b] pos) σ H (decide (x = y)) :=
  ct_cmp op_eq ha hb (mon_eq _) (nomark _) fun x' y' H1 _ px py Q k => by subst px py; exact ⟨hs, k _ (Same.refl _)⟩
theorem cv_eq (ha : CV X a σ H x) (hb : CV X b σ H y) (hs : scal x y = true) : CV X (.Compare a [.Eq] [b] pos) σ H (.bl (decide (x = y))) :=
  cp_cmp op_eq ha hb (mon_eq _) (nomark _) fun x' y' H1 _ px py Q k => by subst px py; exact ⟨hs, k _ _ (Same.refl _) rfl⟩
theorem ct_ne (ha : CV X a σ H x) (hb : CV X b σ H y) (hs : scal x y = true) : CT X (.Compare a [.NotEq] [b] pos) σ H (!decide (x = y)) :=
  ct_cmp op_ne ha hb (mon_eq _) (nomark _) fun x' y' H1 _ px py Q k => by subst px py; exact ⟨hs, k _ (Same.refl _)⟩
theorem ct_isN (ha : CV X a σ H x) {j : Nat} {p' : Pos} : CT X (.Compare a [.Is] [.Constant .none j p'] pos) σ H (decide (x = .non)) :=
  ct_cmp op_isN ha (cv_non (X := X) (σ := σ) (H := H)) (mon_eq _) (nomark _) fun x' y' H1 _ px py Q k => by subst px py; exact ⟨rfl, k _ (Same.refl _)⟩
theorem ct_notN (ha : CV X a σ H x) {j : Nat} {p' : Pos} : CT X (.Compare a [.IsNot] [.Constant .none j p'] pos) σ H (!decide (x = .non)) :=
  ct_cmp op_notN ha (cv_non (X := X) (σ := σ) (H := H)) (mon_eq _) (nomark _) fun x' y' H1 _ px py Q k => by subst px py; exact ⟨rfl, k _ (Same.refl _)⟩
/-- a op b op' c of ints -/
theorem chainR {op op' : CmpOp} {f g : Int → Int → Bool} {i j l : Int} {Q : VK} {H1 : Hp} (ha : CV X a σ H (.int i)) (hb : CV X b σ H (.int j)) (hc : CV X c σ H (.int l)) (s1 : Same H H1) (q : ∀ H2, Same H1 H2 → Q (.bl (f i j && g j l)) H2) :
    tChain (rI0 fun i j => .bl (f i j)) (rI0 fun i j => .bl (g i j)) (RE X a) (RE X b) (RE X c) σ H1 Q := by
  refine ha H1 s1 _ fun x H2 s2 px => hb H2 (s1.trans s2) _ fun y H3 s3 py => ?_
  subst px py
  refine ⟨_, _, rfl, rfl, _, rfl, ?_⟩
  by_cases e : f i j = true
  · rw [if_pos e]
    refine hc H3 ((s1.trans s2).trans s3) _ fun z H4 s4 pz => ?_
    subst pz
    refine ⟨_, _, rfl, rfl, ?_⟩
    have := q H4 ((s2.trans s3).trans s4)
    rw [e, Bool.true_and] at this
    exact this
  · rw [if_neg e]
    have := q H3 (s2.trans s3)
    rw [Bool.not_eq_true] at e
    rw [e, Bool.false_and] at this
    exact this
theorem cv_chain {op op' : CmpOp} {f g : Int → Int → Bool} {i j l : Int} (ho : OpR X (compareOp op) (rI0 fun i j => .bl (f i j))) (ho' : OpR X (compareOp op') (rI0 fun i j => .bl (g i j))) (ha : CV X a σ H (.int i)) (hb : CV X b σ H (.int j)) (hc : CV X c σ H (.int l))
    (hm : lastMarks [op, op'] [b, c] = false := by with_unfolding_all rfl) : CV X (.Compare a [op, op'] [b, c] pos) σ H (.bl (f i j && g j l)) := fun H1 s1 Q k =>
  ⟨_, pe_chain ho ho' re_pe re_pe re_pe hm, chainR (op := op) (op' := op') ha hb hc s1 fun H2 s2 => k _ H2 s2 rfl⟩
theorem ct_chain {op op' : CmpOp} {f g : Int → Int → Bool} {i j l : Int} (ho : OpR X (compareOp op) (rI0 fun i j => .bl (f i j))) (ho' : OpR X (compareOp op') (rI0 fun i j => .bl (g i j))) (ha : CV X a σ H (.int i)) (hb : CV X b σ H (.int j)) (hc : CV X c σ H (.int l))
    (hm : lastMarks [op, op'] [b, c] = false := by with_unfolding_all rfl) : CT X (.Compare a [op, op'] [b, c] pos) σ H (f i j && g j l) := fun H1 s1 Q k =>
  ⟨_, pt_chain ho ho' re_pe re_pe re_pe hm, chainR (op := op) (op' := op') ha hb hc s1 fun H2 s2 => ⟨_, rfl, k H2 s2⟩⟩
/-! truth -/
theorem ct_val {k : Bool} (h : CV X e σ H (.bl k)) (he : ∀ whole, isTrue e X.env whole = (do let v ← whole; standAt e.pos; holding [v] (truthy v)) := by intro _; rfl) : CT X e σ H k := fun H1 s1 Q q =>
  ⟨_, pt_val re_pe he, h H1 s1 _ fun v H2 s2 pv => ⟨k, pv, q H2 s2⟩⟩
theorem ct_not {k : Bool} (h : CT X a σ H k) : CT X (.UnaryOp .Not a pos) σ H (!k) := fun H1 s1 Q q => ⟨_, pt_not rt_pt, h H1 s1 _ fun H2 s2 => q H2 s2⟩
theorem cw_or1 {k : Bool} (h : CT X a σ H k) : CW X (.BoolOp .Or [a] pos) σ H k := fun H1 s1 Q q => ⟨_, pw_or1 rt_pt, h H1 s1 _ q⟩
theorem cw_and1 {k : Bool} (h : CT X a σ H k) : CW X (.BoolOp .And [a] pos) σ H k := fun H1 s1 Q q => ⟨_, pw_and1 rt_pt, h H1 s1 _ q⟩
theorem cw_or {k l : Bool} (h : CT X a σ H k) (h2 : k = false → CW X (.BoolOp .Or (b :: rest) pos) σ H l) : CW X (.BoolOp .Or (a :: b :: rest) pos) σ H (k || l) := fun H1 s1 Q q =>
  ⟨_, pw_or rt_pt rw_pw, h H1 s1 _ fun H2 s2 => by
    cases k with
    | true => rw [if_pos rfl]; exact q H2 s2
    | false => rw [if_neg (by decide)]; exact h2 rfl H2 (s1.trans s2) _ fun H3 s3 => q H3 (s2.trans s3)⟩
theorem cw_and {k l : Bool} (h : CT X a σ H k) (h2 : k = true → CW X (.BoolOp .And (b :: rest) pos) σ H l) : CW X (.BoolOp .And (a :: b :: rest) pos) σ H (k && l) := fun H1 s1 Q q =>
  ⟨_, pw_and rt_pt rw_pw, h H1 s1 _ fun H2 s2 => by
    cases k with
    | true => rw [if_pos rfl]; exact h2 rfl H2 (s1.trans s2) _ fun H3 s3 => q H3 (s2.trans s3)
    | false => rw [if_neg (by decide)]; exact q H2 s2⟩
theorem CW.ct {k : Bool} (h : CW X e σ H k) : CT X e σ H k := fun H1 s1 Q q => ⟨_, rw_pw.pt, h H1 s1 _ q⟩
theorem cv_not {k : Bool} (h : CV X a σ H (.bl k)) : CV X (.UnaryOp .Not a pos) σ H (.bl (!k)) := fun H1 s1 Q q => ⟨_, pe_not re_pe, h H1 s1 _ fun v H2 s2 pv => ⟨k, pv, q _ H2 s2 rfl⟩⟩
theorem cv_one {op : BoolOp} (h : CP X a σ H P) : CP X (.BoolOp op [a] pos) σ H P := fun H1 s1 Q q => ⟨_, pe_one re_pe, h H1 s1 _ q⟩
theorem cv_and {k l : Bool} (h : CV X a σ H (.bl k)) (h2 : k = true → CV X (.BoolOp .And (b :: rest) pos) σ H (.bl l)) : CV X (.BoolOp .And (a :: b :: rest) pos) σ H (.bl (k && l)) := fun H1 s1 Q q =>
  ⟨_, pe_and re_pe re_pe, h H1 s1 _ fun v H2 s2 pv => ⟨k, pv, by
    cases k with
    | true => rw [if_pos rfl]; exact h2 rfl H2 (s1.trans s2) _ fun v H3 s3 pv => q v H3 (s2.trans s3) (by rw [pv]; rfl)
    | false => rw [if_neg (by decide)]; exact q _ H2 s2 rfl⟩⟩
/-! arguments -/
theorem ca_nil : CA X [] σ H (fun vs _ => vs = []) := fun H1 _ Q q => ⟨_, pa_nil, q [] H1 (Same.refl _) rfl⟩
theorem ca_cons {Pr : List V → Hp → Prop} (ha : CP X a σ H Pa) (hr : CA X es σ H Pr) (ma : Mon Pa) (hs : starEach (a :: es) X.env = (false, eval a X.env) :: starEach es X.env := by rfl) :
    CA X (a :: es) σ H (fun vs H2 => ∃ u r, vs = u :: r ∧ Pa u H2 ∧ Pr r H2) := fun H1 s1 Q q =>
  ⟨_, pa_cons re_pe ra_pa hs, ha H1 s1 _ fun u H2 s2 pu => hr H2 (s1.trans s2) _ fun r H3 s3 pr => q _ H3 (s2.trans s3) ⟨u, r, rfl, ma u H2 H3 s3 pu, pr⟩⟩
theorem ca_v {us : List V} (ha : CV X a σ H v) (hr : CA X es σ H (fun vs _ => vs = us)) (hs : starEach (a :: es) X.env = (false, eval a X.env) :: starEach es X.env := by rfl) : CA X (a :: es) σ H (fun vs _ => vs = v :: us) := fun H1 s1 Q q =>
  ⟨_, pa_cons re_pe ra_pa hs, ha H1 s1 _ fun u H2 s2 pu => hr H2 (s1.trans s2) _ fun r H3 s3 pr => q _ H3 (s2.trans s3) (by rw [pu, pr])⟩
theorem CA.imp {A A' : List V → Hp → Prop} (h : CA X es σ H A) (f : ∀ v H1, Same H H1 → A v H1 → A' v H1) : CA X es σ H A' := fun H1 s1 Q k => h H1 s1 Q fun v H2 s2 p => k v H2 s2 (f v H2 (s1.trans s2) p)
theorem cp_tup {A : List V → Hp → Prop} (h : CA X es σ H A) (ma : MonA A) (hl : ∀ vs H1, A vs H1 → vs.length ≤ 1000) {k : Nat} : CP X (.Tuple es k pos) σ H (fun u H2 => ∃ t vs, u = .ref t ∧ H2 t = some (.tup vs) ∧ A vs H2) := fun H1 s1 Q q =>
  ⟨_, pe_tup ra_pa, h H1 s1 _ fun vs H2 s2 pv => ⟨Nat.le_of_lt (small1000 (hl vs H2 pv)), fun t ht => q _ _ (s2.trans (same_new ht)) ⟨t, vs, rfl, upd_same, ma _ _ _ (same_new ht) pv⟩⟩⟩
theorem cp_lst {A : List V → Hp → Prop} (h : CA X es σ H A) (ma : MonA A) (hl : ∀ vs H1, A vs H1 → vs.length ≤ 1000) : CP X (.List es pos) σ H (fun u H2 => ∃ t vs, u = .ref t ∧ H t = none ∧ H2 t = some (.lst vs) ∧ A vs H2) := fun H1 s1 Q q =>
  ⟨_, pe_lst ra_pa, h H1 s1 _ fun vs H2 s2 pv => ⟨Nat.le_of_lt (small1000 (hl vs H2 pv)), fun t ht => q _ _ (s2.trans (same_new ht)) ⟨t, vs, rfl, (s1.trans s2).free ht, upd_same, ma _ _ _ (same_new ht) pv⟩⟩⟩
theorem cp_ifExp {k : Bool} (hc : CT X c σ H k) (h1 : k = true → CP X a σ H P) (h2 : k = false → CP X b σ H P) : CP X (.IfExp c a b pos) σ H P := fun H1 s1 Q q =>
  ⟨_, pe_ifExp rt_pt re_pe re_pe, hc H1 s1 _ fun H2 s2 => by
    cases k with
    | true => rw [if_pos rfl]; exact h1 rfl H2 (s1.trans s2) _ fun v H3 s3 p => q v H3 (s2.trans s3) p
    | false => rw [if_neg (by decide)]; exact h2 rfl H2 (s1.trans s2) _ fun v H3 s3 p => q v H3 (s2.trans s3) p⟩
/-! built-ins by name -/
theorem cp_callB {r : List V → Hp → VK → Prop} {n : Str} {id : String} {A : List V → Hp → Prop} (hc : CallR X (.builtin id) r) (hg : Gl X n) (hm : X.mg n = none) (hv : bootBuiltins n = some (.builtin id)) (ha : CA X (e :: es) σ H A)
    (h : ∀ vs H1, Same H H1 → A vs H1 → ∀ Q : VK, (∀ v H2, Same H1 H2 → P v H2 → Q v H2) → r vs H1 Q) (hn : n ≠ "__name__" := by decide) (hdb : (n == ("__debug__" : Str)) = false := by decide)
    (he : starEach (e :: es) X.env = (false, eval e X.env) :: starEach es X.env := by rfl) (hpl : (backTo pos (starEach es X.env)).any (·.1) = false := by rfl) : CP X (.Call (.Name n p) (e :: es) [] pos) σ H P := fun H1 s1 Q q =>
  ⟨_, pe_callB hc hg hm hv ra_pa hn hdb he hpl, ha H1 s1 _ fun vs H2 s2 pv => h vs H2 (s1.trans s2) pv Q fun v H3 s3 p => q v H3 (s2.trans s3) p⟩
theorem cp_callTy {r : List V → Hp → VK → Prop} {n : Str} {T : String} {A : List V → Hp → Prop} (hc : CallR X (.type T) r) (hg : Gl X n) (hm : X.mg n = none) (hv : bootBuiltins n = some (.type T)) (ha : CA X (e :: es) σ H A)
    (h : ∀ vs H1, Same H H1 → A vs H1 → ∀ Q : VK, (∀ v H2, Same H1 H2 → P v H2 → Q v H2) → r vs H1 Q) (hn : n ≠ "__name__" := by decide) (hdb : (n == ("__debug__" : Str)) = false := by decide)
    (he : starEach (e :: es) X.env = (false, eval e X.env) :: starEach es X.env := by rfl) (hpl : (backTo pos (starEach es X.env)).any (·.1) = false := by rfl) : CP X (.Call (.Name n p) (e :: es) [] pos) σ H P := fun H1 s1 Q q =>
  ⟨_, pe_callTy hc hg hm hv ra_pa hn hdb he hpl, ha H1 s1 _ fun vs H2 s2 pv => h vs H2 (s1.trans s2) pv Q fun v H3 s3 p => q v H3 (s2.trans s3) p⟩
end
end Pz
end
section
set_option Elab.async false
set_option linter.all false
set_option maxRecDepth 100000
set_option maxHeartbeats 4000000
namespace Pz
open PySem PySem.Spec PyProof.Rows L2
/-! ### tuples stay -/
def TS (H H' : Hp) : Prop := ∀ a xs, H a = some (.tup xs) → H' a = some (.tup xs)
theorem Same.ts {H H' : Hp} (s : Same H H') : TS H H' := fun a xs e => s a _ e
theorem TS.trans {H H1 H2 : Hp} (a : TS H H1) (b : TS H1 H2) : TS H H2 := fun c xs e => b c xs (a c xs e)
theorem ts_upd {H : Hp} {p : Addr} {o o0 : HO} (h : H p = some o0) (n : ∀ xs, o0 ≠ .tup xs) : TS H (upd H p o) := fun a xs e => by
  rw [upd_ne (fun q => by subst q; rw [h] at e; exact n xs (Option.some.inj e))]; exact e
theorem same_mut {H H' : Hp} {p : Addr} {o : HO} (s : Same H H') (h : H p = none) : Same H (upd H' p o) := fun b u e => by rw [upd_ne (ne_of_none e h)]; exact s b u e
/-! ### data in the heap -/
abbrev nv (l : List Nat) : List V := l.map fun n : Nat => V.int (n : Int)
abbrev iv (l : List Int) : List V := l.map V.int
/-- a lot: a tuple of blocks -/
def IsL (H : Hp) (l : List Nat) (v : V) : Prop := ∃ a, v = .ref a ∧ H a = some (.tup (nv l))
/-- worths: a tuple of ints -/
def IsW (H : Hp) (w : List Int) (v : V) : Prop := ∃ a, v = .ref a ∧ H a = some (.tup (iv w))
abbrev Rel (δ : Type) := Hp → δ → V → Prop
def IsTup {δ : Type} (R : Rel δ) (H : Hp) (ds : List δ) (v : V) : Prop := ∃ a xs, v = .ref a ∧ H a = some (.tup xs) ∧ Paired (R H) ds xs
def IsLst {δ : Type} (R : Rel δ) (H : Hp) (ds : List δ) (v : V) : Prop := ∃ a xs, v = .ref a ∧ H a = some (.lst xs) ∧ Paired (R H) ds xs
def RInt : Rel Int := fun _ i v => v = .int i
def RNat : Rel Nat := fun _ i v => v = .int (i : Int)
def RBl : Rel Bool := fun _ b v => v = .bl b
/-- told by tuples alone | told by what stands -/
def RT1 {δ : Type} (R : Rel δ) : Prop := ∀ H H' d v, TS H H' → R H d v → R H' d v
def RM {δ : Type} (R : Rel δ) : Prop := ∀ H H' d v, Same H H' → R H d v → R H' d v
theorem RT1.m {δ : Type} {R : Rel δ} (h : RT1 R) : RM R := fun H H' d v s r => h H H' d v (Same.ts s) r
theorem rt_int : RT1 RInt := fun _ _ _ _ _ h => h
theorem rt_nat : RT1 RNat := fun _ _ _ _ _ h => h
theorem rt_bl : RT1 RBl := fun _ _ _ _ _ h => h
theorem rt_l : RT1 IsL := fun H H' d v s ⟨a, e, h⟩ => ⟨a, e, s _ _ h⟩
theorem rt_w : RT1 IsW := fun H H' d v s ⟨a, e, h⟩ => ⟨a, e, s _ _ h⟩
theorem paired_rt {δ : Type} {R : Rel δ} (h : RT1 R) {H H' : Hp} (s : TS H H') {ds : List δ} {xs : List V} (p : Paired (R H) ds xs) : Paired (R H') ds xs := Paired.mapP p fun d v r => h H H' d v s r
theorem paired_rm {δ : Type} {R : Rel δ} (h : RM R) {H H' : Hp} (s : Same H H') {ds : List δ} {xs : List V} (p : Paired (R H) ds xs) : Paired (R H') ds xs := Paired.mapP p fun d v r => h H H' d v s r
theorem rt_tup {δ : Type} {R : Rel δ} (h : RT1 R) : RT1 (IsTup R) := fun H H' d v s ⟨a, xs, e, q, p⟩ => ⟨a, xs, e, s _ _ q, paired_rt h s p⟩
theorem rm_lst {δ : Type} {R : Rel δ} (h : RM R) : RM (IsLst R) := fun H H' d v s ⟨a, xs, e, q, p⟩ => ⟨a, xs, e, s _ _ q, paired_rm h s p⟩
theorem RM.mon {δ : Type} {R : Rel δ} (h : RM R) (d : δ) : Mon (fun v H => R H d v) := fun v H H' s r => h H H' d v s r
theorem paired_len {α β : Type} {F : α → β → Prop} : ∀ {l : List α} {m : List β}, Paired F l m → l.length = m.length
  | _, _, .nil => rfl
  | _, _, .cons _ t => by rw [List.length_cons, List.length_cons, paired_len t]
theorem paired_getL {α β : Type} {F : α → β → Prop} : ∀ {l : List α} {m : List β} {i : Nat} {d : α}, Paired F l m → l[i]? = some d → ∃ x, m[i]? = some x ∧ F d x
  | _, _, _, _, .nil, e => by simp at e
  | _, _, 0, _, .cons r _, e => by simp at e; subst e; exact ⟨_, rfl, r⟩
  | _, _, i + 1, _, .cons _ t, e => by
    obtain ⟨x, h1, h2⟩ := paired_getL (i := i) t (by simpa using e)
    exact ⟨x, by simpa using h1, h2⟩
theorem paired_getR {α β : Type} {F : α → β → Prop} : ∀ {l : List α} {m : List β} {i : Nat} {x : β}, Paired F l m → m[i]? = some x → ∃ d, l[i]? = some d ∧ F d x
  | _, _, _, _, .nil, e => by simp at e
  | _, _, 0, _, .cons r _, e => by simp at e; subst e; exact ⟨_, rfl, r⟩
  | _, _, i + 1, _, .cons _ t, e => by
    obtain ⟨x, h1, h2⟩ := paired_getR (i := i) t (by simpa using e)
    exact ⟨x, by simpa using h1, h2⟩
theorem paired_app {α β : Type} {F : α → β → Prop} : ∀ {l l' : List α} {m m' : List β}, Paired F l m → Paired F l' m' → Paired F (l ++ l') (m ++ m')
  | _, _, _, _, .nil, s => s
  | _, _, _, _, .cons r t, s => .cons r (paired_app t s)
theorem paired_snoc {α β : Type} {F : α → β → Prop} {l : List α} {m : List β} {a : α} {b : β} (p : Paired F l m) (h : F a b) : Paired F (l ++ [a]) (m ++ [b]) := paired_app p (.cons h .nil)
theorem paired_map {α : Type} (f : α → V) : ∀ (l : List α), Paired (fun d v => v = f d) l (l.map f)
  | [] => .nil
  | a :: l => .cons rfl (paired_map f l)
theorem map_paired {α : Type} {f : α → V} : ∀ {l : List α} {m : List V}, Paired (fun d v => v = f d) l m → m = l.map f
  | _, _, .nil => rfl
  | _, _, .cons r t => by rw [r, map_paired t]; rfl
theorem paired_int {H : Hp} {l : List Int} {m : List V} (p : Paired (RInt H) l m) : m = iv l := map_paired p
theorem paired_nat {H : Hp} {l : List Nat} {m : List V} (p : Paired (RNat H) l m) : m = nv l := map_paired p
theorem paired_bl {H : Hp} {l : List Bool} {m : List V} (p : Paired (RBl H) l m) : m = l.map V.bl := map_paired p
theorem nat_paired {H : Hp} (l : List Nat) : Paired (RNat H) l (nv l) := paired_map (fun n : Nat => V.int (n : Int)) l
theorem int_paired {H : Hp} (l : List Int) : Paired (RInt H) l (iv l) := paired_map V.int l
/-! ### what is walked -/
/-- the iterable e: it gives what stands for ds, one by one, while Kp holds between the heap ahead and the heap then -/
def CI {δ : Type} (X : Cx) (tg e : Expr) (σ : L2.St) (H : Hp) (Kp : Hp → Hp → Prop) (ds : List δ) (R : Rel δ) : Prop := ∀ H1, Same H H1 → ∀ Rc : It → Hp → Prop,
  (∀ J H2, Same H1 H2 → Walk J ds.length (fun H' => Kp H2 H') (fun i H3 x H' => Same H3 H' ∧ ∃ d, ds[i]? = some d ∧ R H' d x) → Rc J H2) → RI X tg e σ H1 Rc
section
variable {δ : Type} {X : Cx} {tg e : Expr} {es : List Expr} {σ : L2.St} {H : Hp} {ds : List δ} {R : Rel δ} {pos p : Pos}
theorem CI.weak {Kp Kp' : Hp → Hp → Prop} (h : CI X tg e σ H Kp ds R) (f : ∀ H2 H', Same H H2 → Kp' H2 H' → Kp H2 H') : CI X tg e σ H Kp' ds R := fun H1 s1 Rc k =>
  h H1 s1 Rc fun J H2 s2 w => k J H2 s2 (w.mono (fun H' g => f H2 H' (s1.trans s2) g) fun i H3 x H' _ _ y => y)
theorem ci_tup (h : CP X e σ H (fun v H1 => IsTup R H1 ds v)) (rt : RT1 R) : CI X tg e σ H TS ds R := fun H1 s1 Rc k =>
  ⟨_, pi_tup re_pe, h H1 s1 _ fun v H2 s2 ⟨a, xs, e1, h1, p⟩ => ⟨a, e1, ⟨xs, SqT.of h1⟩, k _ H2 s2 (by
    rw [paired_len p]
    exact walk_tup.mono (fun H' g => SqT.of (g _ _ h1)) fun i H3 x H' hi g ⟨e2, e3⟩ => by
      subst e2
      obtain ⟨d, q1, q2⟩ := paired_getR p e3
      exact ⟨Same.refl _, d, q1, rt _ _ _ _ g q2⟩)⟩⟩
theorem ci_list (h : CP X e σ H (fun v H1 => IsLst R H1 ds v)) (rm : RM R) : CI X tg e σ H Same ds R := fun H1 s1 Rc k =>
  ⟨_, pi_list re_pe, h H1 s1 _ fun v H2 s2 ⟨a, xs, e1, h1, p⟩ => ⟨a, e1, ⟨xs, SqL.of h1⟩, k _ H2 s2 (by
    rw [paired_len p]
    exact walk_list.mono (fun H' g => SqL.of (g _ _ h1)) fun i H3 x H' hi g ⟨e2, e3⟩ => by
      subst e2
      obtain ⟨d, q1, q2⟩ := paired_getR p e3
      exact ⟨Same.refl _, d, q1, rm _ _ _ _ g q2⟩)⟩⟩
/-- a list made just here: what else changes is of no concern -/
def KpNew (H : Hp) (H2 H' : Hp) : Prop := TS H2 H' ∧ ∀ a xs, H a = none → H2 a = some (.lst xs) → H' a = some (.lst xs)
theorem ci_listNew (h : CP X e σ H (fun v H1 => ∃ a xs, v = .ref a ∧ H a = none ∧ H1 a = some (.lst xs) ∧ Paired (R H1) ds xs)) (rt : RT1 R) : CI X tg e σ H (KpNew H) ds R := fun H1 s1 Rc k =>
  ⟨_, pi_list re_pe, h H1 s1 _ fun v H2 s2 ⟨a, xs, e1, h0, h1, p⟩ => ⟨a, e1, ⟨xs, SqL.of h1⟩, k _ H2 s2 (by
    rw [paired_len p]
    exact walk_list.mono (fun H' g => SqL.of (g.2 _ _ h0 h1)) fun i H3 x H' hi g ⟨e2, e3⟩ => by
      subst e2
      obtain ⟨d, q1, q2⟩ := paired_getR p e3
      exact ⟨Same.refl _, d, q1, rt _ _ _ _ g.1 q2⟩)⟩⟩
theorem ci_range1 {a : Expr} {n : Nat} (hg : Gl X "range") (hm : X.mg "range" = none) (ha : CV X a σ H (.int (n : Int))) (hn : n ≤ 100000) (hs : starEach [a] X.env = [(false, eval a X.env)] := by rfl) (hs1 : starEach (a :: []) X.env = (false, eval a X.env) :: starEach [] X.env := by rfl) :
    CI X tg (.Call (.Name "range" p) [a] [] pos) σ H (fun _ _ => True) (List.range n) RNat := fun H1 s1 Rc k =>
  ⟨_, pi_range1 hg hm (pa_cons re_pe pa_nil hs1) hs, ha H1 s1 _ fun v H2 s2 pv => by
    subst pv
    refine ⟨(n : Int), rfl, by omega, by omega, k _ H2 s2 ?_⟩
    rw [List.length_range]
    exact walk_range.mono (fun _ _ => trivial) fun i H3 x H' hi _ ⟨e1, e2⟩ => by
      subst e1
      refine ⟨Same.refl _, i, ?_, ?_⟩
      · rw [List.getElem?_range (by simpa using hi)]
      · rw [e2]; show V.int (0 + (i : Int)) = V.int (i : Int); rw [Int.zero_add]⟩
theorem ci_range2 {a b : Expr} {lo hi : Int} (hg : Gl X "range") (hm : X.mg "range" = none) (ha : CV X a σ H (.int lo)) (hb : CV X b σ H (.int hi)) (hn : -100000 ≤ lo ∧ lo ≤ 100000 ∧ -100000 ≤ hi ∧ hi ≤ 100000)
    (hs : starEach [a, b] X.env = [(false, eval a X.env), (false, eval b X.env)] := by rfl) (hs2 : starEach [b] X.env = [(false, eval b X.env)] := by rfl) (hs1 : starEach (a :: [b]) X.env = (false, eval a X.env) :: starEach [b] X.env := by rfl) (hs0 : starEach (b :: []) X.env = (false, eval b X.env) :: starEach [] X.env := by rfl) :
    CI X tg (.Call (.Name "range" p) [a, b] [] pos) σ H (fun _ _ => True) ((List.range (hi - lo).toNat).map fun i : Nat => lo + (i : Int)) RInt := fun H1 s1 Rc k =>
  ⟨_, pi_range2 hg hm (pa_cons re_pe (pa_cons re_pe pa_nil hs0) hs1) hs hs2, ha H1 s1 _ fun v H2 s2 pv => hb H2 (s1.trans s2) _ fun u H3 s3 pu => by
    subst pv pu
    refine ⟨lo, hi, rfl, ⟨by omega, by omega, by omega, by omega⟩, k _ H3 (s2.trans s3) ?_⟩
    rw [List.length_map, List.length_range]
    exact walk_range.mono (fun _ _ => trivial) fun i H3 x H' hi _ ⟨e1, e2⟩ => by
      subst e1
      refine ⟨Same.refl _, lo + (i : Int), ?_, e2⟩
      rw [List.getElem?_map, List.getElem?_range hi]
      rfl⟩
end
/-! ### comprehensions -/
def RTs (X : Cx) (ifs : List Expr) : TT := fun σ H Q => ∃ t, PTs X ifs t ∧ t σ H Q
theorem rts_pts {X : Cx} {ifs : List Expr} : PTs X ifs (RTs X ifs) := ⟨fun pins s σ H Q I ⟨t, h, q⟩ => h.run pins s σ H Q I q⟩
def CTs (X : Cx) (ifs : List Expr) (σ : L2.St) (H : Hp) (b : Bool) : Prop := ∀ H1, Same H H1 → ∀ Q : Bool → Hp → Prop, (∀ H2, Same H1 H2 → Q b H2) → RTs X ifs σ H1 Q
theorem cts_nil {X : Cx} {σ : L2.St} {H : Hp} : CTs X [] σ H true := fun H1 _ Q q => ⟨_, pts_nil, q H1 (Same.refl _)⟩
theorem cts_one {X : Cx} {σ : L2.St} {H : Hp} {c : Expr} {b : Bool} (h : CT X c σ H b) : CTs X [c] σ H b := fun H1 s1 Q q => ⟨_, pts_one rt_pt, h H1 s1 _ q⟩
/-- a block's tests, its element, in whatever block -/
def tB1 (X : Cx) (scope : Scope) (ifs : List Expr) : TT := fun σ H Q => ∀ (s0 : Shared) (H0 : Hp) (C : Addr) (cl : List (Str × Addr)) (fp : List Addr), RTs (X.blk s0 H0 scope (compEnvC scope cl C X.env) fp) ifs σ H Q
def eB1 (X : Cx) (scope : Scope) (e : Expr) : TE := fun σ H Q => ∀ (s0 : Shared) (H0 : Hp) (C : Addr) (cl : List (Str × Addr)) (fp : List Addr), RE (X.blk s0 H0 scope (compEnvC scope cl C X.env) fp) e σ H Q
/-- [elt for target in e if ..]: own: the names of the block by their places; τ: the slots behind the target's store -/
theorem cp_lc {δ ε : Type} {X : Cx} {tg e elt : Expr} {ifs : List Expr} {scope : Scope} {own : List (Str × Nat)} {σ : L2.St} {H : Hp} {Kp : Hp → Hp → Prop} {ds : List δ} {R : Rel δ} {pos : Pos} {g : TG} {τ : V → Hp → L2.St → Prop} (f : δ → Bool) (gd : δ → ε) (R' : Rel ε)
    (hc : X.calm = true) (hN : X.N.Nodup) (hi : CI X tg e σ H Kp ds R) (hK : ∀ H2 H', Same H2 H' → Kp H2 H') (ok : BlkOk X.N X.env.scope scope own)
    (hg : ∀ (s : Shared) (H : Hp) (C : Addr) (cl : List (Str × Addr)) (fp : List Addr), PG (X.blk s H scope (compEnvC scope cl C X.env) fp) tg g)
    (hτ : ∀ d x H' (Q : L2.St → Hp → Prop), R H' d x → (∀ σ2, τ x H' σ2 → Q σ2 H') → g x (wipe σ (own.map (·.2))) H' Q) (hw : ∀ d x H' σ2, R H' d x → τ x H' σ2 → wipe σ2 (own.map (·.2)) = wipe σ (own.map (·.2)))
    (rt' : RT1 R') (hn : ds.length ≤ 40000)
    (turn : ∀ (s0 : Shared) (H0 : Hp) (C : Addr) (cl : List (Str × Addr)) (fp : List Addr) (d : δ) (x : V) (H' : Hp) (σ2 : L2.St), d ∈ ds → Same H H' → R H' d x → τ x H' σ2 →
      CTs (X.blk s0 H0 scope (compEnvC scope cl C X.env) fp) ifs σ2 H' (f d) ∧ (f d = true → CP (X.blk s0 H0 scope (compEnvC scope cl C X.env) fp) elt σ2 H' (fun v H2 => R' H2 (gd d) v)))
    (hs : ∀ x, foldedSetIterable e X.env x = pure x := by intro _; rfl) :
    CP X (.ListComp elt [⟨tg, e, ifs, 0⟩] scope pos) σ H (fun v H2 => ∃ a xs, v = .ref a ∧ H a = none ∧ H2 a = some (.lst xs) ∧ Paired (R' H2) ((ds.filter f).map gd) xs) := fun H1 s1 Q q => by
  refine ⟨_, pe_lc (te := eB1 X scope elt) (tt := tB1 X scope ifs) hc hN ri_pi ok hg
    (fun s0 H0 C cl fp => ⟨fun pins s σ H Q I h => rts_pts.run pins s σ H Q I (h s0 H0 C cl fp)⟩) (fun s0 H0 C cl fp => ⟨fun pins s σ H Q I h => re_pe.run pins s σ H Q I (h s0 H0 C cl fp)⟩) hs, ?_⟩
  refine hi H1 s1 _ fun J H2 s2 W D hD => ?_
  have hD0 : H D = none := (s1.trans s2).free hD
  refine lc_it (g := g) (tt := tB1 X scope ifs) (te := eB1 X scope elt) (vs := own.map (·.2)) (σ := σ) W (Qd := fun H3 => Q (.ref D) H3) (fun i H3 => Same H2 H3 ∧ ∃ acc, H3 D = some (.lst acc) ∧ acc.length ≤ i ∧ Paired (R' H3) (((ds.take i).filter f).map gd) acc)
    ⟨same_new hD, [], upd_same, Nat.zero_le _, by rw [List.take_zero]; exact .nil⟩ (fun i H3 _ p => hK _ _ p.1) ?_ ?_
  · rintro i x H3 H4 hi ⟨p1, acc, p2, p3, p4⟩ ⟨s4, d, hd, hR⟩
    refine hτ d x H4 _ hR fun σ2 hσ => ⟨hw d x H4 σ2 hR hσ, ?_⟩
    have s5 : Same H H4 := ((s1.trans s2).trans p1).trans s4
    have key := fun s0 H0 C cl fp => turn s0 H0 C cl fp d x H4 σ2 (List.mem_of_getElem? hd) s5 hR hσ
    have etake : ds.take (i + 1) = ds.take i ++ [d] := by rw [List.take_add_one, hd]; rfl
    intro s0 H0 C cl fp
    refine (key s0 H0 C cl fp).1 H4 (Same.refl _) _ fun H5 s6 => ?_
    cases e : f d with
    | false =>
      rw [if_neg (by decide)]
      refine ⟨(p1.trans s4).trans s6, acc, s6 _ _ (s4 _ _ p2), by omega, ?_⟩
      rw [etake, List.filter_append, List.filter_cons_of_neg (by rw [e]; decide)]
      simp only [List.filter_nil, List.append_nil]
      exact paired_rm rt'.m (s4.trans s6) p4
    | true =>
      rw [if_pos rfl]
      intro s0 H0 C cl fp
      refine (key s0 H0 C cl fp).2 e H5 s6 _ fun v H6 s7 hv => ⟨acc, s7 _ _ (s6 _ _ (s4 _ _ p2)), ?_, ?_⟩
      · have hsl := sizeLine_eq
        omega
      · have hDn : H2 D = none := hD
        have eD : H6 D = some (.lst acc) := s7 _ _ (s6 _ _ (s4 _ _ p2))
        have tS : TS H6 (upd H6 D (.lst (acc ++ [v]))) := ts_upd eD fun xs q => by cases q
        refine ⟨same_mut (((p1.trans s4).trans s6).trans s7) hDn, acc ++ [v], upd_same, by rw [List.length_append, List.length_singleton]; omega, ?_⟩
        rw [etake, List.filter_append, List.filter_cons_of_pos e, List.map_append]
        simp only [List.filter_nil, List.map_cons, List.map_nil]
        exact paired_snoc (paired_rt rt' ((Pz.Same.ts ((s4.trans s6).trans s7)).trans tS) p4) (rt' _ _ _ _ tS hv)
  · rintro H3 ⟨p1, acc, p2, p3, p4⟩
    rw [List.take_length] at p4
    exact q _ H3 (s2.trans p1) ⟨D, acc, rfl, hD0, p2, p4⟩
/-- the target a name -/
theorem cp_lc1 {δ ε : Type} {X : Cx} {e elt : Expr} {ifs : List Expr} {scope : Scope} (own : List (Str × Nat)) {σ : L2.St} {H : Hp} {Kp : Hp → Hp → Prop} {ds : List δ} {R : Rel δ} {pos px : Pos} {j : Nat} {n : Str} (f : δ → Bool) (gd : δ → ε) (R' : Rel ε)
    (hi : CI X (.Name n px) e σ H Kp ds R) (hK : ∀ H2 H', Same H2 H' → Kp H2 H') (rt' : RT1 R') (hn : ds.length ≤ 40000)
    (turn : ∀ (s0 : Shared) (H0 : Hp) (C : Addr) (cl : List (Str × Addr)) (fp : List Addr) (d : δ) (x : V) (H' : Hp), d ∈ ds → Same H H' → R H' d x →
      CTs (X.blk s0 H0 scope (compEnvC scope cl C X.env) fp) ifs ((wipe σ (own.map (·.2))).set j (some x)) H' (f d) ∧
      (f d = true → CP (X.blk s0 H0 scope (compEnvC scope cl C X.env) fp) elt ((wipe σ (own.map (·.2))).set j (some x)) H' (fun v H2 => R' H2 (gd d) v)))
    (hc : X.calm = true) (hN : X.N.Nodup) (ok : BlkOk X.N X.env.scope scope own)
    (hg : ∀ (s : Shared) (H : Hp) (C : Addr) (cl : List (Str × Addr)) (fp : List Addr), PG (X.blk s H scope (compEnvC scope cl C X.env) fp) (.Name n px) (gName j))
    (hw : ∀ x, wipe ((wipe σ (own.map (·.2))).set j (some x)) (own.map (·.2)) = wipe σ (own.map (·.2)))
    (hs : ∀ x, foldedSetIterable e X.env x = pure x := by intro _; rfl) :
    CP X (.ListComp elt [⟨.Name n px, e, ifs, 0⟩] scope pos) σ H (fun v H2 => ∃ a xs, v = .ref a ∧ H a = none ∧ H2 a = some (.lst xs) ∧ Paired (R' H2) ((ds.filter f).map gd) xs) :=
  cp_lc (g := gName j) (τ := fun x _ σ2 => σ2 = (wipe σ (own.map (·.2))).set j (some x)) f gd R' hc hN hi hK ok hg (fun d x H' Q _ q => q _ rfl) (fun d x H' σ2 _ e => by rw [e]; exact hw x) rt' hn
    (fun s0 H0 C cl fp d x H' σ2 hd s r e => by subst e; exact turn s0 H0 C cl fp d x H' hd s r) hs
end Pz
end
section
set_option Elab.async false
set_option linter.all false
set_option maxRecDepth 100000
set_option maxHeartbeats 4000000
namespace Pz
open PySem PySem.Spec PyProof.Rows L2
/-! ### statements -/
section
variable {X : Cx} {st : Stmt} {rest body orelse : List Stmt} {D : Ends} {σ : L2.St} {H : Hp} {e c : Expr} {P : V → Hp → Prop} {pos : Pos}
theorem ss_nil (q : D.nx σ H) : RSs X [] D σ H := ⟨_, pss_nil, q⟩
theorem ss_cons (h : RS X st { D with nx := fun σ' H' => RSs X rest D σ' H' } σ H) : RSs X (st :: rest) D σ H := ⟨_, pss_cons rs_ps rss_pss, h⟩
theorem ss_one (h : RS X st D σ H) : RSs X [st] D σ H := ⟨_, pss_one rs_ps, h⟩
theorem s_ret (h : CP X e σ H P) (k : ∀ v H1, Same H H1 → P v H1 → D.rt v H1) : RS X (.Return (some e) pos) D σ H := ⟨_, ps_ret re_pe, h.run k⟩
theorem s_retE (h : RE X e σ H D.rt) : RS X (.Return (some e) pos) D σ H := ⟨_, ps_ret re_pe, h⟩
theorem s_expr (h : RE X e σ H fun _ H1 => D.nx σ H1) (hs : swapsWith e none pos.line X.env = pure false := by rfl) : RS X (.Expr e pos) D σ H := ⟨_, ps_expr re_pe hs, h⟩
theorem s_exprC (h : CP X e σ H P) (k : ∀ H1, Same H H1 → D.nx σ H1) (hs : swapsWith e none pos.line X.env = pure false := by rfl) : RS X (.Expr e pos) D σ H := s_expr (h.run fun v H1 s _ => k H1 s) hs
theorem s_set (i : Nat) {n : Str} {pos' : Pos} (h : CP X e σ H P) (k : ∀ v H1, Same H H1 → P v H1 → D.nx (σ.set i (some v)) H1) (hN : X.N.Nodup := by decide +kernel) (hi : X.N[i]? = some n := by rfl) (hx : Loc X.env.scope n := by first | exact Or.inl rfl | exact Or.inr rfl)
    (hs : swapsWith e (some (.Name n pos')) pos.line X.env = pure false := by rfl) (hf : X.fn n = true ∨ X.env.scope.names.lookup n = some .local := by first | exact .inl rfl | exact .inr rfl) : RS X (.Assign [.Name n pos'] e pos) D σ H :=
  ⟨_, ps_set hN hi hx re_pe hs hf, h.run k⟩
theorem s_setE (i : Nat) {n : Str} {pos' : Pos} (h : RE X e σ H fun v H1 => D.nx (σ.set i (some v)) H1) (hN : X.N.Nodup := by decide +kernel) (hi : X.N[i]? = some n := by rfl) (hx : Loc X.env.scope n := by first | exact Or.inl rfl | exact Or.inr rfl)
    (hs : swapsWith e (some (.Name n pos')) pos.line X.env = pure false := by rfl) (hf : X.fn n = true ∨ X.env.scope.names.lookup n = some .local := by first | exact .inl rfl | exact .inr rfl) : RS X (.Assign [.Name n pos'] e pos) D σ H :=
  ⟨_, ps_set hN hi hx re_pe hs hf, h⟩
theorem s_if {b : Bool} (hc : CT X c σ H b) (h1 : b = true → ∀ H1, Same H H1 → RSs X body D σ H1) (h2 : b = false → ∀ H1, Same H H1 → RSs X orelse D σ H1) : RS X (.If c body orelse pos) D σ H :=
  ⟨_, ps_if rt_pt rss_pss rss_pss, hc H (Same.refl H) _ fun H1 s1 => by
    cases b with
    | true => rw [if_pos rfl]; exact h1 rfl H1 s1
    | false => rw [if_neg (by decide)]; exact h2 rfl H1 s1⟩
/-- if c: raise ..: c is false -/
theorem s_guard (hc : CT X c σ H false) (k : ∀ H1, Same H H1 → D.nx σ H1) : RS X (.If c body [] pos) D σ H :=
  s_if hc (fun q => by cases q) fun _ H1 s1 => ss_nil (k H1 s1)
theorem s_pass (q : D.nx σ H) : RS X (.Pass pos) D σ H := ⟨_, ps_pass, q⟩
theorem s_for {δ : Type} {tg it : Expr} {Kp : Hp → Hp → Prop} {ds : List δ} {R : Rel δ} (hi : CI X tg it σ H Kp ds R) (Pv : Hp → Nat → L2.St → Hp → Prop) (h0 : ∀ H2, Same H H2 → Pv H2 0 σ H2)
    (hK : ∀ H2 i σ' H', Same H H2 → i ≤ ds.length → Pv H2 i σ' H' → Kp H2 H')
    (turn : ∀ H2 i d x σ' H3 H', Same H H2 → ds[i]? = some d → Pv H2 i σ' H3 → Same H3 H' → R H' d x → RG X tg x σ' H' fun σ3 H4 => RSs X body { D with nx := Pv H2 (i + 1), ct := Pv H2 (i + 1), bk := D.nx } σ3 H4)
    (hd : ∀ H2 σ' H', Same H H2 → Pv H2 ds.length σ' H' → D.nx σ' H') (hp : PassesOwn (model X.prog X.w) X.A X.env X.xe := by exact PassesOwn.never) (hc : X.calm = true := by rfl)
    (hs : ∀ x, foldedSetIterable it X.env x = pure x := by intro _; rfl) : RS X (.For tg it body [] pos) D σ H :=
  ⟨_, ps_for hp hc ri_pi rg_pg rss_pss hs, hi H (Same.refl H) _ fun J H2 s2 W => for_it W (Pv H2) (h0 H2 s2) (fun i σ' H' hi p => hK H2 i σ' H' s2 hi p)
    (fun i x σ' H3 H' hi p ⟨s4, d, hd, hr⟩ => turn H2 i d x σ' H3 H' s2 hd p s4 hr) fun σ' H' p => hd H2 σ' H' s2 p⟩
theorem s_while (W : Nat → L2.St → Hp → Prop) {m0 : Nat} (h0 : W m0 σ H)
    (turn : ∀ m σ' H', W m σ' H' → ∃ b, CT X c σ' H' b ∧ (b = true → ∀ H1, Same H' H1 → RSs X body { D with nx := fun σ2 H2 => ∃ m', m' < m ∧ W m' σ2 H2, ct := fun σ2 H2 => ∃ m', m' < m ∧ W m' σ2 H2, bk := D.nx } σ' H1) ∧ (b = false → ∀ H1, Same H' H1 → D.nx σ' H1))
    (hp : PassesOwn (model X.prog X.w) X.A X.env X.xe := by exact PassesOwn.never) : RS X (.While c body [] pos) D σ H :=
  ⟨_, ps_while hp rt_pt rss_pss, W, ⟨m0, h0⟩, fun m σ' H' w => by
    obtain ⟨b, hc, h1, h2⟩ := turn m σ' H' w
    refine hc H' (Same.refl H') _ fun H1 s1 => ?_
    cases b with
    | true => rw [if_pos rfl]; exact ⟨_, fun σ2 H2 q => q, h1 rfl H1 s1⟩
    | false => rw [if_neg (by decide)]; exact h2 rfl H1 s1⟩
theorem g_name (i : Nat) {n : Str} {pos' : Pos} {v : V} {Q : L2.St → Hp → Prop} (q : Q (σ.set i (some v)) H) (hN : X.N.Nodup := by decide +kernel) (hi : X.N[i]? = some n := by rfl) (hx : Loc X.env.scope n := by first | exact Or.inl rfl | exact Or.inr rfl)
    (hf : X.fn n = true ∨ X.env.scope.names.lookup n = some .local := by first | exact .inl rfl | exact .inr rfl) : RG X (.Name n pos') v σ H Q := ⟨_, pg_name hN hi hx hf, q⟩
end
/-! ### the text's defs and their promises -/
/-- the module's name x stands for the def st -/
def Df (K : PySem.W.Frag) (mg : Str → Option Value) (x : Str) (st : Stmt) : Prop := ∃ f fd, mg x = some (.ref f) ∧ FunD K x x (defArgs st) (defBody st) (defScope st) [] [] f fd
/-- the module's name x stands for a def that keeps the promise sp -/
def Pm (P : Program) (w : World) (K : PySem.W.Frag) (mg : Str → Option Value) (base : Heap) (x : Str) (k : Nat) (ps : List Str) (sp : Sp) : Prop :=
  ∃ f fd, mg x = some (.ref f) ∧ PySem.W.keepIn K (.ref f) = true ∧ Binds K fd ps [] ∧ FnOk P w K mg base CX0 k f fd ps sp
section
variable {P : Program} {w : World} {K : PySem.W.Frag} {mg : Str → Option Value} {base : Heap} {x : Str} {st : Stmt} {N ps : List Str} {k : Nat} {sp : Sp}
theorem Df.pm (D : Df K mg x st) (S : FnScope N ps (defScope st))
    (hb : ∀ (kV doc pm : Value) (an : Option Addr) (cdv ct : Value) (us : List Value), us.length = ps.length → bindArgs (PySem.W.fnOf x x (defArgs st) (defBody st) (defScope st) .none kV doc pm an cdv ct) ⟨us, []⟩ = pure (ps.zip us))
    (len : ∀ vs H Q E, sp vs H Q E → vs.length = ps.length)
    (body : ∀ (f : Addr) (cdv : Value) (A : Around) (outer : List Env) (s : Shared) (H : Hp) (vs : List V) (Q : VK) (E : XK), Room k (A.deeper (envOfC x (defScope st) s.heap.objs.size f cdv)) → sp vs H Q E →
      RSs (cxOf CX0 P w K mg base N x (defScope st) f cdv A outer s H E).nox (defBody st) { nx := fun _ H' => Q .non H', rt := Q } (start N vs) H) : Pm P w K mg base x (k + 1) ps sp := by
  obtain ⟨f, fd, hm, F⟩ := D
  refine ⟨f, fd, hm, F.kp, F.bindsN hb, F.ok S len fun cdv A outer s H vs Q E hr h => ?_⟩
  obtain ⟨t, p, q⟩ := body f cdv A outer s H vs Q E hr h
  exact ⟨t, p.nox, q⟩
theorem Pm.mono {j : Nat} (G : Pm P w K mg base x k ps sp) (h : k ≤ j) : Pm P w K mg base x j ps sp := by
  obtain ⟨f, fd, h1, h2, h3, h4⟩ := G
  exact ⟨f, fd, h1, h2, h3, h4.mono h⟩
end
/-- promises that only make objects: arguments that stand for i; the value stands for R i -/
def SpI {ι : Type} (A : ι → List V → Hp → Prop) (R : ι → V → Hp → Prop) : Sp := fun vs H Q _ => ∃ i, A i vs H ∧ ∀ v H', Same H H' → R i v H' → Q v H'
section
variable {X : Cx} {e : Expr} {es : List Expr} {σ : L2.St} {H : Hp} {P : V → Hp → Prop} {x : Str} {ps : List Str} {k : Nat} {sp : Sp} {p pos : Pos}
/-- x(e, ..) -/
theorem re_call {A : List V → Hp → Prop} {Q : VK} (G : Pm X.prog X.w X.K X.mg X.base x k ps sp) (hr : Room k X.A) (ha : CA X (e :: es) σ H A) (h : ∀ vs H1, Same H H1 → A vs H1 → sp vs H1 Q E0) (hg : Gl X x := by rfl)
    (hdb : (x == ("__debug__" : Str)) = false := by decide) (he : starEach (e :: es) X.env = (false, eval e X.env) :: starEach es X.env := by rfl) (hpl : (backTo pos (starEach es X.env)).any (·.1) = false := by rfl) : RE X (.Call (.Name x p) (e :: es) [] pos) σ H Q := by
  obtain ⟨f, fd, h1, h2, h3, h4⟩ := G
  exact ⟨_, pe_call (E := E0) h4 hr hg h1 h2 h3 .nil pass0 ra_pa hdb he hpl, ha H (Same.refl H) _ fun vs H1 s1 a => by
    show sp (vs ++ []) H1 Q E0
    rw [List.append_nil]
    exact h vs H1 s1 a⟩
theorem cp_call {A : List V → Hp → Prop} (G : Pm X.prog X.w X.K X.mg X.base x k ps sp) (hr : Room k X.A) (ha : CA X (e :: es) σ H A)
    (h : ∀ vs H1, Same H H1 → A vs H1 → ∀ Q : VK, (∀ v H2, Same H1 H2 → P v H2 → Q v H2) → sp vs H1 Q E0) (hg : Gl X x := by rfl)
    (hdb : (x == ("__debug__" : Str)) = false := by decide) (he : starEach (e :: es) X.env = (false, eval e X.env) :: starEach es X.env := by rfl) (hpl : (backTo pos (starEach es X.env)).any (·.1) = false := by rfl) : CP X (.Call (.Name x p) (e :: es) [] pos) σ H P := fun H1 s1 Q q =>
  re_call G hr (fun H2 s2 Q' q' => ha H2 (s1.trans s2) Q' q') (fun vs H2 s2 a => h vs H2 (s1.trans s2) a Q fun v H3 s3 p => q v H3 (s2.trans s3) p) hg hdb he hpl
theorem cp_callI {ι : Type} {Ai : ι → List V → Hp → Prop} {R : ι → V → Hp → Prop} {A : List V → Hp → Prop} (G : Pm X.prog X.w X.K X.mg X.base x k ps (SpI Ai R)) (i : ι) (hr : Room k X.A) (ha : CA X (e :: es) σ H A) (h : ∀ vs H1, Same H H1 → A vs H1 → Ai i vs H1) (hg : Gl X x := by rfl)
    (hdb : (x == ("__debug__" : Str)) = false := by decide) (he : starEach (e :: es) X.env = (false, eval e X.env) :: starEach es X.env := by rfl) (hpl : (backTo pos (starEach es X.env)).any (·.1) = false := by rfl) : CP X (.Call (.Name x p) (e :: es) [] pos) σ H (R i) :=
  cp_call G hr ha (fun vs H1 s1 a Q q => ⟨i, h vs H1 s1 a, q⟩) hg hdb he hpl
end
end Pz
end
section
set_option Elab.async false
set_option linter.all false
set_option maxRecDepth 100000
set_option maxHeartbeats 4000000
namespace Pz
open PySem PySem.Spec PyProof.Rows L2
/-! ### data: ways to say the same -/
theorem isL_tup {H : Hp} {l : List Nat} {v : V} : IsL H l v ↔ IsTup RNat H l v :=
  ⟨fun ⟨a, e, h⟩ => ⟨a, _, e, h, nat_paired l⟩, fun ⟨a, xs, e, h, p⟩ => ⟨a, e, by rw [← paired_nat p]; exact h⟩⟩
theorem isW_tup {H : Hp} {l : List Int} {v : V} : IsW H l v ↔ IsTup RInt H l v :=
  ⟨fun ⟨a, e, h⟩ => ⟨a, _, e, h, int_paired l⟩, fun ⟨a, xs, e, h, p⟩ => ⟨a, e, by rw [← paired_int p]; exact h⟩⟩
theorem mon_l (l : List Nat) : Mon (fun v H => IsL H l v) := rt_l.m.mon l
theorem mon_w (l : List Int) : Mon (fun v H => IsW H l v) := rt_w.m.mon l
theorem IsL.m {H H' : Hp} {l : List Nat} {v : V} (h : IsL H l v) (s : Same H H') : IsL H' l v := rt_l.m _ _ _ _ s h
theorem IsW.m {H H' : Hp} {l : List Int} {v : V} (h : IsW H l v) (s : Same H H') : IsW H' l v := rt_w.m _ _ _ _ s h
/-- at a list or tuple of n things -/
def Sized (n : Nat) (v : V) (H : Hp) : Prop := ∃ p ys, v = .ref p ∧ (H p = some (.lst ys) ∨ H p = some (.tup ys)) ∧ ys.length = n
theorem IsTup.sized {δ : Type} {R : Rel δ} {H : Hp} {ds : List δ} {v : V} (h : IsTup R H ds v) : Sized ds.length v H := by
  obtain ⟨a, xs, e, q, p⟩ := h
  exact ⟨a, xs, e, .inr q, (paired_len p).symm⟩
theorem IsLst.sized {δ : Type} {R : Rel δ} {H : Hp} {ds : List δ} {v : V} (h : IsLst R H ds v) : Sized ds.length v H := by
  obtain ⟨a, xs, e, q, p⟩ := h
  exact ⟨a, xs, e, .inl q, (paired_len p).symm⟩
theorem flat_nv (l : List Nat) : (nv l).all flatV = true := by
  induction l with
  | nil => rfl
  | cons a l ih => rw [nv, List.map_cons, List.all_cons]; simp only [flatV, Bool.true_and]; exact ih
theorem flat_iv (l : List Int) : (iv l).all flatV = true := by
  induction l with
  | nil => rfl
  | cons a l ih => rw [iv, List.map_cons, List.all_cons]; simp only [flatV, Bool.true_and]; exact ih
theorem inV_nv (x : Nat) (l : List Nat) : inV (.int (x : Int)) (nv l) = decide (x ∈ l) := by
  induction l with
  | nil => rfl
  | cons a l ih =>
    have e : inV (.int (x : Int)) (nv (a :: l)) = (eqV (.int (a : Int)) (.int (x : Int)) || inV (.int (x : Int)) (nv l)) := rfl
    rw [e, ih]
    by_cases h : x = a
    · subst h
      have : eqV (.int (x : Int)) (.int (x : Int)) = true := by simp [eqV]
      simp [this]
    · have : eqV (.int (a : Int)) (.int (x : Int)) = false := by
        simp only [eqV]
        apply beq_eq_false_iff_ne.mpr
        omega
      simp [this, h]
section
variable {X : Cx} {e a b : Expr} {es : List Expr} {σ : L2.St} {H : Hp} {P Pa Pb : V → Hp → Prop} {p pos q : Pos}
/-! ### built-ins over lists and tuples -/
abbrev Sg (X : Cx) (e : Expr) : Prop := starEach (e :: []) X.env = (false, eval e X.env) :: starEach [] X.env
theorem ca_one (ha : CP X e σ H P) (hs : Sg X e := by rfl) : CA X [e] σ H (fun vs H2 => ∃ u, vs = [u] ∧ P u H2) := fun H1 s1 Q q => ⟨_, pa_cons re_pe pa_nil hs, ha H1 s1 _ fun u H2 s2 pu => q _ H2 s2 ⟨u, rfl, pu⟩⟩
/-- f(e), f a built-in by its name -/
theorem cp_b1 {r : List V → Hp → VK → Prop} {n : Str} {id : String} {P' : V → Hp → Prop} (hc : CallR X (.builtin id) r) (hm : X.mg n = none) (hv : bootBuiltins n = some (.builtin id)) (ha : CP X e σ H P)
    (h : ∀ v H1, Same H H1 → P v H1 → ∀ Q : VK, (∀ v H2, Same H1 H2 → P' v H2 → Q v H2) → r [v] H1 Q) (hg : Gl X n := by rfl) (hn : n ≠ "__name__" := by decide) (hdb : (n == ("__debug__" : Str)) = false := by decide)
    (hs : Sg X e := by rfl) (hpl : (backTo pos (starEach [] X.env)).any (·.1) = false := by rfl) : CP X (.Call (.Name n p) [e] [] pos) σ H P' :=
  cp_callB hc hg hm hv (ca_one ha hs) (fun vs H1 s1 ⟨v, ev, pv⟩ Q k => by subst ev; exact h v H1 s1 pv Q k) hn hdb hs hpl
theorem cp_t1 {r : List V → Hp → VK → Prop} {n : Str} {T : String} {P' : V → Hp → Prop} (hc : CallR X (.type T) r) (hm : X.mg n = none) (hv : bootBuiltins n = some (.type T)) (ha : CP X e σ H P)
    (h : ∀ v H1, Same H H1 → P v H1 → ∀ Q : VK, (∀ v H2, Same H1 H2 → P' v H2 → Q v H2) → r [v] H1 Q) (hg : Gl X n := by rfl) (hn : n ≠ "__name__" := by decide) (hdb : (n == ("__debug__" : Str)) = false := by decide)
    (hs : Sg X e := by rfl) (hpl : (backTo pos (starEach [] X.env)).any (·.1) = false := by rfl) : CP X (.Call (.Name n p) [e] [] pos) σ H P' :=
  cp_callTy hc hg hm hv (ca_one ha hs) (fun vs H1 s1 ⟨v, ev, pv⟩ Q k => by subst ev; exact h v H1 s1 pv Q k) hn hdb hs hpl
theorem cv_len {n : Nat} (hm : X.mg "len" = none) (ha : CP X e σ H P) (hz : ∀ v H1, Same H H1 → P v H1 → Sized n v H1) (hg : Gl X "len" := by rfl) (hs : Sg X e := by rfl) (hpl : (backTo pos (starEach [] X.env)).any (·.1) = false := by rfl) :
    CV X (.Call (.Name "len" p) [e] [] pos) σ H (.int (n : Int)) :=
  cp_b1 call_len_seq hm PySem.boot_len ha (fun v H1 s1 pv Q k => by
    obtain ⟨p', ys, e1, h1, h2⟩ := hz v H1 s1 pv
    subst e1
    refine ⟨p', ys, rfl, ?_, ?_⟩
    · rcases h1 with h1 | h1
      · exact .inl (SqL.of h1)
      · exact .inr (SqT.of h1)
    · rw [h2]; exact k _ H1 (Same.refl _) rfl) hg (by decide) (by decide) hs hpl
/-- a list just made -/
def NewL {δ : Type} (R : Rel δ) (H : Hp) (ds : List δ) (v : V) (H2 : Hp) : Prop := ∃ a xs, v = .ref a ∧ H a = none ∧ H2 a = some (.lst xs) ∧ Paired (R H2) ds xs
theorem lst_of {δ : Type} {R : Rel δ} {H H2 : Hp} {ds : List δ} {v : V} (h : ∃ a xs, v = .ref a ∧ H a = none ∧ H2 a = some (.lst xs) ∧ Paired (R H2) ds xs) : IsLst R H2 ds v := by
  obtain ⟨a, xs, e, _, q, p⟩ := h
  exact ⟨a, xs, e, q, p⟩
theorem NewL.lst {δ : Type} {R : Rel δ} {H H2 : Hp} {ds : List δ} {v : V} (h : NewL R H ds v H2) : IsLst R H2 ds v := by
  obtain ⟨a, xs, e, _, q, p⟩ := h
  exact ⟨a, xs, e, q, p⟩
theorem cv_all {bs : List Bool} (hm : X.mg "all" = none) (ha : CP X e σ H (NewL RBl H bs)) (hc : X.calm = true := by rfl) (hg : Gl X "all" := by rfl) (hs : Sg X e := by rfl) (hpl : (backTo pos (starEach [] X.env)).any (·.1) = false := by rfl) :
    CV X (.Call (.Name "all" p) [e] [] pos) σ H (.bl (bs.all id)) :=
  cp_b1 (cr_all hc) hm (by decide +kernel) ha (fun v H1 s1 ⟨a, xs, e1, _, h1, p1⟩ Q k => by
    subst e1
    rw [paired_bl p1] at h1
    exact ⟨a, bs, rfl, SqL.of h1, k _ H1 (Same.refl _) rfl⟩) hg (by decide) (by decide) hs hpl
theorem cv_sum {ns : List Int} (hm : X.mg "sum" = none) (ha : CP X e σ H (NewL RInt H ns)) (hc : X.calm = true := by rfl) (hg : Gl X "sum" := by rfl) (hs : Sg X e := by rfl) (hpl : (backTo pos (starEach [] X.env)).any (·.1) = false := by rfl) :
    CV X (.Call (.Name "sum" p) [e] [] pos) σ H (.int ns.sum) :=
  cp_b1 (cr_sum hc) hm (by decide +kernel) ha (fun v H1 s1 ⟨a, xs, e1, _, h1, p1⟩ Q k => by
    subst e1
    rw [paired_int p1] at h1
    exact ⟨a, ns, rfl, SqL.of h1, k _ H1 (Same.refl _) rfl⟩) hg (by decide) (by decide) hs hpl
theorem cp_max {ns : List Int} (hm : X.mg "max" = none) (ha : CP X e σ H (NewL RInt H ns)) (hn : 0 < ns.length) (hc : X.calm = true := by rfl) (hg : Gl X "max" := by rfl) (hs : Sg X e := by rfl) (hpl : (backTo pos (starEach [] X.env)).any (·.1) = false := by rfl) :
    CP X (.Call (.Name "max" p) [e] [] pos) σ H (fun v _ => ∃ m, v = .int m ∧ m ∈ ns ∧ ∀ y ∈ ns, y ≤ m) :=
  cp_b1 (cr_max hc) hm (by decide +kernel) ha (fun v H1 s1 ⟨a, xs, e1, _, h1, p1⟩ Q k => by
    subst e1
    rw [paired_int p1] at h1
    exact ⟨a, ns, rfl, SqL.of h1, hn, fun m h2 h3 => k _ H1 (Same.refl _) ⟨m, rfl, h2, h3⟩⟩) hg (by decide) (by decide) hs hpl
theorem cp_min {ns : List Int} (hm : X.mg "min" = none) (ha : CP X e σ H (fun v H1 => ∃ a, v = .ref a ∧ H1 a = some (.lst (iv ns)))) (hn : 0 < ns.length) (hc : X.calm = true := by rfl) (hg : Gl X "min" := by rfl) (hs : Sg X e := by rfl) (hpl : (backTo pos (starEach [] X.env)).any (·.1) = false := by rfl) :
    CP X (.Call (.Name "min" p) [e] [] pos) σ H (fun v _ => ∃ m, v = .int m ∧ m ∈ ns ∧ ∀ y ∈ ns, m ≤ y) :=
  cp_b1 (cr_min hc) hm (by decide +kernel) ha (fun v H1 s1 ⟨a, e1, h1⟩ Q k => by
    subst e1
    exact ⟨a, ns, rfl, SqL.of h1, hn, fun m h2 h3 => k _ H1 (Same.refl _) ⟨m, rfl, h2, h3⟩⟩) hg (by decide) (by decide) hs hpl
/-- tuple(a list) -/
theorem cp_tupleOf {δ : Type} {R : Rel δ} {ds : List δ} (hm : X.mg "tuple" = none) (ha : CP X e σ H (fun v H1 => IsLst R H1 ds v)) (rm : RM R) (hg : Gl X "tuple" := by rfl) (hs : Sg X e := by rfl) (hpl : (backTo pos (starEach [] X.env)).any (·.1) = false := by rfl) :
    CP X (.Call (.Name "tuple" p) [e] [] pos) σ H (fun v H1 => IsTup R H1 ds v) :=
  cp_t1 call_tuple_of hm (by decide +kernel) ha (fun v H1 s1 ⟨a, xs, e1, h1, p1⟩ Q k => by
    subst e1
    exact ⟨a, xs, rfl, .inl ⟨SqL.of h1, fun l hl => k _ _ (same_new hl) ⟨l, xs, rfl, upd_same, paired_rm rm (same_new hl) p1⟩⟩⟩) hg (by decide) (by decide) hs hpl
/-- list(a tuple): new -/
theorem cp_listOf {δ : Type} {R : Rel δ} {ds : List δ} (hm : X.mg "list" = none) (ha : CP X e σ H (fun v H1 => IsTup R H1 ds v)) (rm : RM R) (hg : Gl X "list" := by rfl) (hs : Sg X e := by rfl) (hpl : (backTo pos (starEach [] X.env)).any (·.1) = false := by rfl) :
    CP X (.Call (.Name "list" p) [e] [] pos) σ H (NewL R H ds) := fun H0 s0 Q q =>
  ⟨_, pe_callTy call_list_of hg hm (by decide +kernel) (pa_cons re_pe pa_nil hs) (by decide) (by decide) hs hpl, ha H0 s0 _ fun v H1 s1 ⟨a, xs, e1, h1, p1⟩ => by
    subst e1
    exact ⟨a, xs, rfl, .inr (SqT.of h1), fun l hl => q _ _ (s1.trans (same_new hl)) ⟨l, xs, rfl, (s0.trans s1).free hl, upd_same, paired_rm rm (same_new hl) p1⟩⟩⟩
/-! ### subscripts -/
theorem cp_ixT {δ : Type} {R : Rel δ} {ds : List δ} {i : Int} {d : δ} (ha : CP X a σ H (fun v H1 => IsTup R H1 ds v)) (hb : CV X b σ H (.int i)) (hd : atI ds i = some d) (rm : RM R) (hs : PlainIx b := by exact fun _ _ => rfl) :
    CP X (.Subscript a b pos) σ H (fun v H1 => R H1 d v) := fun H0 s0 Q q =>
  ⟨_, pe_ix ix_tup re_pe re_pe hs, two ha hb (fun v H H' s h => by obtain ⟨a, xs, e1, h1, p1⟩ := h; exact ⟨a, xs, e1, s _ _ h1, paired_rm rm s p1⟩) s0 fun x y H1 s1 ⟨a, xs, e1, h1, p1⟩ e2 => by
    subst e1 e2
    obtain ⟨j, g1, g2, _⟩ := atI_get hd
    obtain ⟨v, g3, g4⟩ := paired_getL p1 g2
    refine ⟨a, xs, i, v, rfl, rfl, SqT.of h1, ?_, q v H1 s1 g4⟩
    have hl := paired_len p1
    unfold atI at hd ⊢
    rw [← hl]
    cases e : ixN ds.length i with
    | none => rw [e] at hd; cases hd
    | some j' =>
      have e3 := (ixN_seq e).1
      rw [g1] at e3
      cases e3
      exact g3⟩
theorem cp_ixL {δ : Type} {R : Rel δ} {ds : List δ} {i : Int} {d : δ} (ha : CP X a σ H (fun v H1 => IsLst R H1 ds v)) (hb : CV X b σ H (.int i)) (hd : atI ds i = some d) (rm : RM R) (hs : PlainIx b := by exact fun _ _ => rfl) :
    CP X (.Subscript a b pos) σ H (fun v H1 => R H1 d v) := fun H0 s0 Q q =>
  ⟨_, pe_ix ix_list re_pe re_pe hs, two ha hb (fun v H H' s h => rm_lst rm _ _ _ _ s h) s0 fun x y H1 s1 ⟨a, xs, e1, h1, p1⟩ e2 => by
    subst e1 e2
    obtain ⟨j, g1, g2, _⟩ := atI_get hd
    obtain ⟨v, g3, g4⟩ := paired_getL p1 g2
    refine ⟨a, xs, i, v, rfl, rfl, SqL.of h1, ?_, q v H1 s1 g4⟩
    have hl := paired_len p1
    unfold atI at hd ⊢
    rw [← hl]
    cases e : ixN ds.length i with
    | none => rw [e] at hd; cases hd
    | some j' =>
      have e3 := (ixN_seq e).1
      rw [g1] at e3
      cases e3
      exact g3⟩
/-! ### in -/
theorem cv_in {x : Nat} {l : List Nat} (ha : CV X a σ H (.int (x : Int))) (hb : CP X b σ H (fun v H1 => IsL H1 l v)) (hm : behindInMarks .In b = false := by rfl) : CV X (.Compare a [.In] [b] pos) σ H (.bl (decide (x ∈ l))) :=
  cp_cmp op_in_seq ha hb (mon_eq _) hm fun u v H1 s1 e1 ⟨t, e2, h2⟩ Q k => by
    subst e1 e2
    refine ⟨t, _, rfl, .inr (SqT.of h2), rfl, flat_nv l, ?_⟩
    rw [if_neg (by decide), inV_nv]
    exact k _ H1 (Same.refl _) rfl
theorem ct_in {x : Nat} {l : List Nat} (ha : CV X a σ H (.int (x : Int))) (hb : CP X b σ H (fun v H1 => IsL H1 l v)) (hm : behindInMarks .In b = false := by rfl) : CT X (.Compare a [.In] [b] pos) σ H (decide (x ∈ l)) :=
  ct_cmp op_in_seq ha hb (mon_eq _) hm fun u v H1 s1 e1 ⟨t, e2, h2⟩ Q k => by
    subst e1 e2
    refine ⟨t, _, rfl, .inr (SqT.of h2), rfl, flat_nv l, ?_⟩
    rw [if_neg (by decide), inV_nv]
    exact k H1 (Same.refl _)
theorem ct_notIn {x : Nat} {l : List Nat} (ha : CV X a σ H (.int (x : Int))) (hb : CP X b σ H (fun v H1 => IsL H1 l v)) (hm : behindInMarks .NotIn b = false := by rfl) : CT X (.Compare a [.NotIn] [b] pos) σ H (decide (x ∉ l)) :=
  ct_cmp op_notIn_seq ha hb (mon_eq _) hm fun u v H1 s1 e1 ⟨t, e2, h2⟩ Q k => by
    subst e1 e2
    refine ⟨t, _, rfl, .inr (SqT.of h2), rfl, flat_nv l, ?_⟩
    rw [if_pos rfl, inV_nv, ← decide_not]
    exact k H1 (Same.refl _)
end
end Pz
end
section
set_option Elab.async false
set_option linter.all false
set_option maxRecDepth 100000
set_option maxHeartbeats 4000000
namespace Pz
open PySem PySem.Spec PyProof.Rows L2
/-! ### grounds -/
/-- a ground of the table t -/
def IsG (C : Addr) (H : Hp) (t : List (List Nat)) (v : V) : Prop := ∃ a dx vt, v = .ref a ∧ H a = some (.ins C dx (putF "table" vt [])) ∧ IsTup IsL H t vt
theorem rt_t : RT1 (IsTup IsL) := rt_tup rt_l
theorem IsG.m {C : Addr} {H H' : Hp} {t : List (List Nat)} {v : V} (h : IsG C H t v) (s : Same H H') : IsG C H' t v := by
  obtain ⟨a, dx, vt, e, q, p⟩ := h
  exact ⟨a, dx, vt, e, s _ _ q, rt_t _ _ _ _ (Same.ts s) p⟩
theorem mon_g (C : Addr) (t : List (List Nat)) : Mon (fun v H => IsG C H t v) := fun v H H' s h => h.m s
section
variable {X : Cx} {e a b : Expr} {σ : L2.St} {H : Hp} {P : V → Hp → Prop} {p pos q : Pos}
/-- e.f of an instance -/
theorem cp_fld {C : Addr} {f : Str} {P' : V → Hp → Prop} (ha : CP X e σ H P) (c : Cls X.K C) (n : NoAttr X.K C f) (h : ∀ v H1, Same H H1 → P v H1 → ∃ a dx fs u, v = .ref a ∧ H1 a = some (.ins C dx fs) ∧ fs.lookup f = some u ∧ P' u H1)
    (hb : attributeBase e f X.env (eval e X.env) = eval e X.env := by rfl) : CP X (.Attribute e f pos) σ H P' := fun H0 s0 Q q =>
  ⟨_, pe_fld re_pe hb, ha H0 s0 _ fun v H1 s1 pv => by
    obtain ⟨a, dx, fs, u, e1, h1, h2, h3⟩ := h v H1 (s0.trans s1) pv
    exact ⟨a, C, dx, fs, u, e1, h1, c, n, h2, q u H1 s1 h3⟩⟩
theorem cp_table {C : Addr} {t : List (List Nat)} (ha : CP X e σ H (fun v H1 => IsG C H1 t v)) (c : Cls X.K C) (n : NoAttr X.K C "table") (hb : attributeBase e "table" X.env (eval e X.env) = eval e X.env := by rfl) :
    CP X (.Attribute e "table" pos) σ H (fun v H1 => IsTup IsL H1 t v) :=
  cp_fld ha c n (fun v H1 _ ⟨a, dx, vt, e1, h1, h2⟩ => ⟨a, dx, _, vt, e1, h1, by rw [lookup_putF, if_pos rfl], h2⟩) hb
/-- what __len__ promises -/
def spLen (C : Addr) : Sp := SpI (fun (t : List (List Nat)) vs H => ∃ v, vs = [v] ∧ IsG C H t v) (fun t v _ => v = .int (t.length : Int))
theorem call_lenOwn {C f : Addr} {fd : FuncData} {k : Nat} (F : FnOk X.prog X.w X.K X.mg X.base CX0 k f fd ["self"] (spLen C)) (hr : Room (k + 1) X.A) (hb : Binds X.K fd ["self"] []) (m : Meth X.K C "__len__" f) :
    CallR X (.builtin "len") (fun xs H Q => ∃ v t, xs = [v] ∧ IsG C H t v ∧ t.length < 1000 ∧ ∀ H', Same H H' → Q (.int (t.length : Int)) H') := by
  intro pins s σ H xs us Q I r h
  obtain ⟨v, t, rfl, hg, hl, q⟩ := h
  obtain ⟨u, rfl, ru⟩ := vals1 r
  have hg' := hg
  obtain ⟨a, dx, vt, rfl, ha, _⟩ := hg'
  have eu : u = .ref a := ru
  subst eu
  obtain ⟨mA, O, _⟩ := ins_get I.hok ha
  obtain ⟨od, J, _⟩ := O.look
  obtain ⟨mf, Fr⟩ := I.fr
  refine PySem.W.len_K Fr I.mod.kin J m.at_ m.fn (wpAny_call ?_)
  refine codeAny_mono (F.run X.A.in1 X.stack s H ⟨[.ref a], []⟩ [.ref a] [.ref a] (fun v H' => v = .int (t.length : Int) ∧ Same H H') E0 hr.in1 I.env0.in1 (hb s [.ref a] I.kIn rfl) (.cons rfl .nil) ⟨t, ⟨_, rfl, hg⟩, fun v H' s1 e => ⟨e, s1⟩⟩) fun r s' hq => ?_
  cases r with
  | error er => exact False.elim hq
  | ok fl =>
    cases fl with
    | ret u =>
      obtain ⟨v, H', I3, rv, ev, s3⟩ := I.after hq
      subst ev
      obtain ⟨tk, eu⟩ := rv
      subst eu
      exact ⟨⟨by omega, by omega⟩, .int (t.length : Int), H', I3.tok _, ⟨_, rfl⟩, q H' s3⟩
    | next => exact False.elim hq
    | brk => exact False.elim hq
    | cont => exact False.elim hq
/-- how len of a ground stands -/
def LenG (P : Program) (w : World) (K : PySem.W.Frag) (mg : Str → Option Value) (base : Heap) (C : Addr) : Prop := ∃ f fd, Meth K C "__len__" f ∧ Binds K fd ["self"] [] ∧ FnOk P w K mg base CX0 1 f fd ["self"] (spLen C)
theorem cv_lenG {C : Addr} {t : List (List Nat)} (G : LenG X.prog X.w X.K X.mg X.base C) (hr : Room 2 X.A) (hm : X.mg "len" = none) (ha : CP X e σ H (fun v H1 => IsG C H1 t v)) (hl : t.length < 1000) (hg : Gl X "len" := by rfl) (hs : Sg X e := by rfl) (hpl : (backTo pos (starEach [] X.env)).any (·.1) = false := by rfl) :
    CV X (.Call (.Name "len" p) [e] [] pos) σ H (.int (t.length : Int)) := by
  obtain ⟨f, fd, m, hb, F⟩ := G
  exact cp_b1 (call_lenOwn F hr hb m) hm PySem.boot_len ha (fun v H1 s1 pv Q k => ⟨v, t, rfl, pv, hl, fun H' s2 => k _ H' s2 rfl⟩) hg (by decide) (by decide) hs hpl
end
/-! ### comprehensions over a name's list or tuple -/
section
variable {X : Cx} {e elt : Expr} {σ : L2.St} {H : Hp} {pos px : Pos}
theorem lc_new {δ : Type} {R : Rel δ} {H : Hp} {ds : List δ} {e : Expr} (h : CP X e σ H (fun v H2 => ∃ a xs, v = .ref a ∧ H a = none ∧ H2 a = some (.lst xs) ∧ Paired (R H2) ds xs)) : CP X e σ H (NewL R H ds) := h
end
end Pz
end
section
set_option Elab.async false
set_option linter.all false
set_option maxRecDepth 100000
set_option maxHeartbeats 4000000
namespace Pz
open PySem PySem.Spec PyProof.Rows L2
/-- all([elt for name in e]) -/
theorem map_filter_true {δ ε : Type} (ds : List δ) (g : δ → ε) : (ds.filter fun _ => true).map g = ds.map g := by rw [List.filter_eq_self.mpr (fun _ _ => rfl)]
theorem all_map_id {δ : Type} (ds : List δ) (b : δ → Bool) : (ds.map b).all id = ds.all b := by
  induction ds with
  | nil => rfl
  | cons a l ih => rw [List.map_cons, List.all_cons, List.all_cons, ih]; rfl
section
variable {δ : Type} {X : Cx} {e elt : Expr} {scope : Scope} {σ : L2.St} {H : Hp} {Kp : Hp → Hp → Prop} {ds : List δ} {R : Rel δ} {pos px p pos2 : Pos} {j : Nat} {n : Str}
theorem cv_allOver (own : List (Str × Nat)) (b : δ → Bool) (hm : X.mg "all" = none) (hi : CI X (.Name n px) e σ H Kp ds R) (hK : ∀ H2 H', Same H2 H' → Kp H2 H') (hn : ds.length ≤ 40000)
    (turn : ∀ (s0 : Shared) (H0 : Hp) (C : Addr) (cl : List (Str × Addr)) (fp : List Addr) (d : δ) (x : V) (H' : Hp), d ∈ ds → Same H H' → R H' d x →
      CV (X.blk s0 H0 scope (compEnvC scope cl C X.env) fp) elt ((wipe σ (own.map (·.2))).set j (some x)) H' (.bl (b d)))
    (hN : X.N.Nodup) (ok : BlkOk X.N X.env.scope scope own)
    (hg : ∀ (s : Shared) (H : Hp) (C : Addr) (cl : List (Str × Addr)) (fp : List Addr), PG (X.blk s H scope (compEnvC scope cl C X.env) fp) (.Name n px) (gName j))
    (hw : ∀ x, wipe ((wipe σ (own.map (·.2))).set j (some x)) (own.map (·.2)) = wipe σ (own.map (·.2))) (hc : X.calm = true := by rfl)
    (hs : ∀ x, foldedSetIterable e X.env x = pure x := by intro _; rfl) (hg2 : Gl X "all" := by rfl) (hs2 : Sg X (.ListComp elt [⟨.Name n px, e, [], 0⟩] scope pos) := by rfl) (hpl : (backTo pos2 (starEach [] X.env)).any (·.1) = false := by rfl) :
    CV X (.Call (.Name "all" p) [.ListComp elt [⟨.Name n px, e, [], 0⟩] scope pos] [] pos2) σ H (.bl (ds.all b)) := by
  have h := cv_all (pos := pos2) (p := p) hm (lc_new (cp_lc1 own (fun _ => true) b RBl hi hK rt_bl hn (fun s0 H0 C cl fp d x H' hd s1 hx => ⟨cts_nil, fun _ => (turn s0 H0 C cl fp d x H' hd s1 hx)⟩) hc hN ok hg hw hs)) hc hg2 hs2 hpl
  rw [map_filter_true, all_map_id] at h
  exact h
end
end Pz
end
section
set_option Elab.async false
set_option linter.all false
set_option maxRecDepth 100000
set_option maxHeartbeats 4000000
namespace Pz
open PySem PySem.Spec PyProof.Rows L2
def iB1 (X : Cx) (scope : Scope) (tg e : Expr) : TI := fun σ H R => ∀ (s0 : Shared) (H0 : Hp) (C : Addr) (cl : List (Str × Addr)) (fp : List Addr), RI (X.blk s0 H0 scope (compEnvC scope cl C X.env) fp) tg e σ H R
/-- all([elt for name in e for name1 in e1]), where each is true -/
theorem cv_all2 {δ ε : Type} {X : Cx} {e e1 elt : Expr} {scope : Scope} (own : List (Str × Nat)) {vs1 : List Nat} {σ : L2.St} {H : Hp} {ds : List δ} {R : Rel δ} {R1 : Rel ε} {es : δ → List ε} {pos pos2 p px px1 : Pos} {j j1 : Nat} {n n1 : Str}
    (hm : X.mg "all" = none) (hi : CI X (.Name n px) e σ H TS ds R) (hn : ds.length ≤ 100) (hn1 : ∀ d ∈ ds, (es d).length ≤ 100)
    (turn : ∀ (s0 : Shared) (H0 : Hp) (C : Addr) (cl : List (Str × Addr)) (fp : List Addr) (d : δ) (x : V) (H' : Hp), d ∈ ds → Same H H' → R H' d x →
      CI (X.blk s0 H0 scope (compEnvC scope cl C X.env) fp) (.Name n1 px1) e1 ((wipe σ (own.map (·.2))).set j (some x)) H' TS (es d) R1 ∧
      ∀ (s1 : Shared) (H1 : Hp) (C1 : Addr) (cl1 : List (Str × Addr)) (fp1 : List Addr) (d1 : ε) (x1 : V) (H2 : Hp), d1 ∈ es d → Same H H2 → R1 H2 d1 x1 →
        CV (X.blk s1 H1 scope (compEnvC scope cl1 C1 X.env) fp1) elt ((wipe ((wipe σ (own.map (·.2))).set j (some x)) vs1).set j1 (some x1)) H2 (.bl true))
    (hN : X.N.Nodup) (ok : BlkOk X.N X.env.scope scope own) (hv : ∀ i ∈ vs1, i ∈ own.map (·.2))
    (hg : ∀ (s : Shared) (H : Hp) (C : Addr) (cl : List (Str × Addr)) (fp : List Addr), PG (X.blk s H scope (compEnvC scope cl C X.env) fp) (.Name n px) (gName j))
    (hg1 : ∀ (s : Shared) (H : Hp) (C : Addr) (cl : List (Str × Addr)) (fp : List Addr), PG (X.blk s H scope (compEnvC scope cl C X.env) fp) (.Name n1 px1) (gName j1))
    (hw : ∀ x, wipe ((wipe σ (own.map (·.2))).set j (some x)) (own.map (·.2)) = wipe σ (own.map (·.2)))
    (hw1 : ∀ x y, wipe ((wipe ((wipe σ (own.map (·.2))).set j (some x)) vs1).set j1 (some y)) vs1 = wipe ((wipe σ (own.map (·.2))).set j (some x)) vs1) (hc : X.calm = true := by rfl)
    (hs : ∀ x, foldedSetIterable e X.env x = pure x := by intro _; rfl) (hs1 : ∀ env x, foldedSetIterable e1 env x = pure x := by intro _ _; rfl) (hg2 : Gl X "all" := by rfl)
    (hs2 : Sg X (.ListComp elt [⟨.Name n px, e, [], 0⟩, ⟨.Name n1 px1, e1, [], 0⟩] scope pos) := by rfl) (hpl : (backTo pos2 (starEach [] X.env)).any (·.1) = false := by rfl) :
    CV X (.Call (.Name "all" p) [.ListComp elt [⟨.Name n px, e, [], 0⟩, ⟨.Name n1 px1, e1, [], 0⟩] scope pos] [] pos2) σ H (.bl true) := by
  have key : CP X (.ListComp elt [⟨.Name n px, e, [], 0⟩, ⟨.Name n1 px1, e1, [], 0⟩] scope pos) σ H (fun v H2 => ∃ bs, NewL RBl H bs v H2 ∧ ∀ b ∈ bs, b = true) := fun H1 s1 Q q => by
    refine ⟨_, pe_lc2 (te := eB1 X scope elt) (wi1 := iB1 X scope (.Name n1 px1) e1) (g := gName j) (g1 := gName j1) (tt := tYes) (tt1 := tYes) (vs1 := vs1) hc hN ri_pi ok hv hg (fun _ _ _ _ _ => pts_nil)
      (fun s0 H0 C cl fp => ⟨fun pins s σ H Q I h => ri_pi.run pins s σ H Q I (h s0 H0 C cl fp)⟩) hg1 (fun _ _ _ _ _ => pts_nil) (fun s0 H0 C cl fp => ⟨fun pins s σ H Q I h => re_pe.run pins s σ H Q I (h s0 H0 C cl fp)⟩) hs hs1, ?_⟩
    refine hi H1 s1 _ fun J H2 s2 W D hD => ?_
    have hD0 : H D = none := (s1.trans s2).free hD
    refine ⟨fun i m H3 => m = ds.length - i ∧ i ≤ ds.length ∧ Same H2 H3 ∧ ∃ bs : List Bool, H3 D = some (.lst (bs.map V.bl)) ∧ bs.length ≤ 100 * i ∧ ∀ b ∈ bs, b = true, ⟨ds.length, by simp, Nat.zero_le _, same_new hD, [], upd_same, Nat.zero_le _, fun b hb => by simp at hb⟩, ?_⟩
    rintro i m H3 ⟨rfl, hi, s3, bs, hb, hbl, hbt⟩
    by_cases hlt : i < ds.length
    · refine .inr ⟨W.goes i H3 hlt (Same.ts s3), fun H4 => Same H2 H4 ∧ ∃ bs : List Bool, H4 D = some (.lst (bs.map V.bl)) ∧ bs.length ≤ 100 * (i + 1) ∧ ∀ b ∈ bs, b = true, fun H' q => ⟨_, by omega, rfl, hlt, q⟩, fun x H' y => ?_⟩
      obtain ⟨s4, d, hd, hR⟩ := W.yields i H3 x H' hlt (Same.ts s3) y
      have hdm := List.mem_of_getElem? hd
      have s5 : Same H H' := ((s1.trans s2).trans s3).trans s4
      refine ⟨hw x, ?_⟩
      unfold tYes
      dsimp only
      rw [if_pos rfl]
      intro s0 H0 C cl fp
      refine (turn s0 H0 C cl fp d x H' hdm s5 hR).1 H' (Same.refl _) _ fun J1 H5 s6 W1 => ?_
      have hb5 : H5 D = some (.lst (bs.map V.bl)) := s6 _ _ (s4 _ _ hb)
      refine ⟨fun i1 m1 H6 => m1 = (es d).length - i1 ∧ i1 ≤ (es d).length ∧ Same H2 H6 ∧ TS H5 H6 ∧ ∃ bs : List Bool, H6 D = some (.lst (bs.map V.bl)) ∧ bs.length ≤ 100 * i + i1 ∧ ∀ b ∈ bs, b = true,
        ⟨_, rfl, Nat.zero_le _, (s3.trans s4).trans s6, fun _ _ e => e, bs, hb5, by omega, hbt⟩, ?_⟩
      rintro i1 m1 H6 ⟨rfl, hi1, s7, t7, bs1, hb6, hbl1, hbt1⟩
      by_cases hlt1 : i1 < (es d).length
      · refine .inr ⟨W1.goes i1 H6 hlt1 t7, fun H8 => Same H2 H8 ∧ TS H5 H8 ∧ ∃ bs : List Bool, H8 D = some (.lst (bs.map V.bl)) ∧ bs.length ≤ 100 * i + (i1 + 1) ∧ ∀ b ∈ bs, b = true, fun H' q => ⟨_, by omega, rfl, hlt1, q⟩, fun x1 H8 y1 => ?_⟩
        obtain ⟨s8, d1, hd1, hR1⟩ := W1.yields i1 H6 x1 H8 hlt1 t7 y1
        refine ⟨hw1 x x1, ?_⟩
        rw [if_pos rfl]
        intro s0' H0' C' cl' fp'
        refine (turn s0' H0' C' cl' fp' d x H' hdm s5 hR).2 s0' H0' C' cl' fp' d1 x1 H8 (List.mem_of_getElem? hd1) (((s1.trans s2).trans s7).trans s8) hR1 H8 (Same.refl _) _ fun v H9 s9 ev => ?_
        subst ev
        have hb9 : H9 D = some (.lst (bs1.map V.bl)) := s9 _ _ (s8 _ _ hb6)
        refine ⟨bs1.map V.bl, hb9, ?_, same_mut ((s7.trans s8).trans s9) hD, ?_, bs1 ++ [true], ?_, ?_, ?_⟩
        · rw [List.length_map]
          have := sizeLine_eq
          have := hn1 d hdm
          omega
        · exact (t7.trans (Same.ts (s8.trans s9))).trans (ts_upd hb9 fun xs q => by cases q)
        · rw [upd_same, List.map_append]; rfl
        · rw [List.length_append, List.length_singleton]; omega
        · intro b hb
          rcases List.mem_append.mp hb with hb | hb
          · exact hbt1 b hb
          · exact List.mem_singleton.mp hb
      · have e : i1 = (es d).length := by omega
        subst e
        have := hn1 d hdm
        exact .inl ⟨W1.stops H6 t7, s7, bs1, hb6, by omega, hbt1⟩
    · have e : i = ds.length := by omega
      subst e
      refine .inl ⟨W.stops H3 (Same.ts s3), q _ H3 (s2.trans s3) ⟨bs, ⟨D, _, rfl, hD0, hb, paired_map V.bl bs⟩, hbt⟩⟩
  exact cp_b1 (cr_all hc) hm (by decide +kernel) key (fun v H1 s1 ⟨bs, ⟨a, xs, e1, _, h1, p1⟩, hbt⟩ Q k => by
    subst e1
    rw [paired_bl p1] at h1
    refine ⟨a, bs, rfl, SqL.of h1, ?_⟩
    have : bs.all id = true := List.all_eq_true.mpr fun b hb => hbt b hb
    rw [this]
    exact k _ H1 (Same.refl _) rfl) hg2 (by decide) (by decide) hs2 hpl
end Pz
end
section
set_option Elab.async false
set_option linter.all false
set_option maxRecDepth 100000
set_option maxHeartbeats 4000000
namespace Pz
open PySem PySem.Spec PyProof.Rows L2
section
variable {P : Program} {w : World} {A : Around} {E : Value → Shared → Prop} {s : Shared}
/-- an empty set -/
abbrev voidSet (w : World) : Obj := { cls := .type "set", dict := none, data := .set #[] 0 (.fresh 0 0 (!w.params.followText "set-order")) }
/-- what the filling of the new set leaves -/
def Filled (w : World) (s : Shared) (ns : List Int) (v : Value) (s2 : Shared) : Prop :=
  v = .none ∧ ∃ g tk n, s2 = { s with heap := g, toks := tk } ∧ SetR w g s.heap.objs.size (fun j => decide (j ∈ ns)) n ∧ n ≤ ns.length ∧ ∀ b o, s.heap.get? b = some o → g.get? b = some o
/-- set(a list of ints) -/
theorem set_of_list {l : Addr} {items : Array Value} (ns : List Int) {Q : Value → Shared → Prop} (hh : A.handled = none) (hl : s.heap.IsList l items) (hit : IntsAre items.toList ns) (hb : ns.length + 1 < scanBound)
    (h : ∀ (g : Heap) (tk n : Nat), SetR w g s.heap.objs.size (fun j => decide (j ∈ ns)) n → n ≤ ns.length → (∀ b o, s.heap.get? b = some o → g.get? b = some o) → Q (.ref s.heap.objs.size) { s with heap := g, toks := tk }) :
    wpAny (model P w) A (call (.type "set") [.ref l]) Q E s := by
  have hz : items.size = ns.length := by rw [← Array.length_toList]; exact IntsAre.length hit
  obtain ⟨mC, mR, mE⟩ := F.called_set.mro
  have fM := F.called_set.made
  have fS := F.called_set.sub
  have fN := F.called_set.notType
  have fC := F.called_set.canCreate
  have fT := F.typeCall_set_1 (.ref l)
  have fL := F.called_set.init.lookup
  have fB := F.called_set.init.bind (.ref s.heap.objs.size)
  have gS : (s.heap.push (voidSet w)).get? s.heap.objs.size = some (voidSet w) := Heap.get?_push_size _ rfl
  have tS : Shared.TypeIs { s with heap := s.heap.push (voidSet w) } (.ref s.heap.objs.size) "set" := ⟨_, gS, rfl⟩
  refine wpAny_call (codeAny_of_tree (wpAny_pure ⟨Code.quiet_builtin _ (by decide +kernel), codeAny_builtin F.entry_type_call ?_⟩))
  rw [Around.under_plain (weight_type_call_type "set" [.ref l] []) rfl]
  repeat (any_goals (first | assumption | wp_step))
  refine codeAny_mono (code_set_led1 (.ref l) (E := E) (Q₁ := fun v s1 => v = .ref s.heap.objs.size ∧ s1 = { s with heap := s.heap.push (voidSet w) }) ⟨rfl, rfl⟩) fun r s1 hr => ?_
  cases r with
  | error e => exact hr
  | ok fl =>
    cases fl with
    | ret v =>
      obtain ⟨rfl, rfl⟩ := hr
      repeat (any_goals (first | assumption | wp_step))
      refine codeAny_mono (codeAny_call_builtin (R := wants (Filled w s ns) E) F.called_set.init.plain F.entry_set_init (check_set_init_1 tS ?_)) fun r2 s2 hr2 => ?_
      · obtain ⟨⟨cl, di, da, sl⟩, e1, e2, nl, e3⟩ := hl
        simp only at e2 e3
        subst e2 e3
        have hl1 : (s.heap.push (voidSet w)).IsList l items := ⟨_, Heap.get?_push_of_some _ e1, rfl, nl, rfl⟩
        have f1 := F.sub_list_set
        have f2 := F.sub_list_frozenset
        have f3 : (Value.type "list" == Value.type "dict") = false := by decide
        have gl : (s.heap.push (voidSet w)).get? l = some { cls := .type "list", dict := di, data := .seq items nl, slots := sl } := Heap.get?_push_of_some _ e1
        have lt : l < s.heap.objs.size := Heap.lt_size e1
        unfold Builtin.«set.__init__» noKeywords Builtin.Frozenset.updateFrom
        generalize hPI : pyIter = PI
        wp_walk
        subst hPI
        refine wpAny_pyIter_list hl1 (wpAny_bind (wpAny_runValue ?_))
        have hh3 : A.in1.in1.in1.handled = none := by simp [hh]
        have n1 : l ≠ (s.heap.push (voidSet w)).objs.size := by rw [Heap.size_push]; exact Nat.ne_of_lt (Nat.lt_succ_of_lt lt)
        refine set_update_ints ((Walks.list hh3 _ l n1 items).toS) s.heap.objs.size ?f ns hz hb ?v (items.size - 0) 0 _ (by omega) (Nat.zero_le _) ⟨⟨_, Heap.get?_push_size _ rfl, rfl, rfl⟩, hl1.push _⟩ ⟨0, Nat.le_refl 0, setR_new_at (Heap.get?_push_of_some _ gS)⟩ ?r
        case f =>
          rw [Heap.size_push]
          simp only [List.mem_cons, List.not_mem_nil, or_false, not_or]
          exact ⟨Nat.ne_of_lt (Nat.lt_succ_self _), Nat.ne_of_gt lt⟩
        case v =>
          intro i v hv
          have hi : i < ns.length := by rw [← hz]; exact (Array.getElem?_eq_some_iff.mp hv).1
          obtain ⟨t, e⟩ := PyProof.Rows.IntsAre.int_at hit i v (by rw [Array.getElem?_toList]; exact hv)
          exact ⟨ns[i], t, List.getElem?_eq_getElem hi, by rw [e, List.getD_eq_getElem?_getD, List.getElem?_eq_getElem hi]; rfl⟩
        case r =>
          rintro ⟨g, gs, dr, tk, os⟩ c hm hc hS
          have q1 : gs = s.gens := hm.gens
          have q2 : dr = s.drawn := hm.drawn
          have q3 : os = s.os := hm.os
          subst q1 q2 q3
          refine wpAny_pure (wpAny_pure ⟨rfl, g, tk, c, rfl, hS, by omega, fun b o e => ?_⟩)
          have hb0 : b < s.heap.objs.size := Heap.lt_size e
          refine hm.heap b o ?_ (Heap.get?_push_of_some _ (Heap.get?_push_of_some _ e))
          rw [Heap.size_push]
          simp only [List.mem_cons, List.not_mem_nil, or_false, not_or]
          exact ⟨Nat.ne_of_lt hb0, Nat.ne_of_lt (Nat.lt_succ_of_lt hb0)⟩
      · cases r2 with
        | error e => exact hr2
        | ok f2 =>
          cases f2 with
          | ret v =>
            obtain ⟨rfl, g, tk, n, rfl, hS, hn, hk⟩ := hr2
            repeat (any_goals (first | assumption | wp_step))
            exact h g _ n hS hn hk
          | _ => exact hr2.elim
    | _ => exact hr.elim
end
end Pz
end
section
set_option Elab.async false
set_option linter.all false
set_option maxRecDepth 100000
set_option maxHeartbeats 4000000
namespace Pz
open PySem PySem.Spec PyProof.Rows L2
section
variable {X : Cx}
/-- set(xs), a list or a tuple of ints, fewer than 1000 -/
def rSetOf (K : PySem.W.Frag) (w : World) : List V → Hp → VK → Prop := fun vs H Q => ∃ (a : Addr) (ns : List Int), vs = [V.ref a] ∧ (SqL K H a (ns.map V.int) ∨ SqT K H a (ns.map V.int)) ∧ ns.length ≤ 1000 ∧
  ∀ p n, H p = none → n ≤ ns.length → Q (.ref p) (upd H p (SetO w p (fun j => decide (j ∈ ns)) n))
theorem cr_setOf (hc : X.calm = true) : CallR X (.type "set") (rSetOf X.K X.w) := by
  intro pins s σ H vs us Q I r h
  obtain ⟨a, ns, rfl, hs, hz, q⟩ := h
  rw [Vals.ref1 r]
  have hb : ns.length + 1 < scanBound := by unfold scanBound; omega
  have fin : ∀ (g : Heap) (tk n : Nat), SetR X.w g s.heap.objs.size (fun j => decide (j ∈ ns)) n → n ≤ ns.length → (∀ b o, s.heap.get? b = some o → g.get? b = some o) → EP X pins σ Q (.ref s.heap.objs.size) { s with heap := g, toks := tk } := fun g tk n hS hn hk =>
    ⟨.ref _, _, I.laid (t' := tk) hk (Nat.le_refl _) (setO_new hS), rfl, q _ n (I.hok.fresh (Nat.le_refl _)) hn⟩
  rcases hs with hs | hs
  · obtain ⟨its, rv, pl, _⟩ := I.list hs
    exact set_of_list ns (I.ok.hd hc) pl.isList (by simpa using Vals.ints rv) hb fin
  · obtain ⟨its, rv, pl, _⟩ := I.tuple hs
    exact call_set_tupI ns (I.ok.hd hc) pl (by simpa using Vals.ints rv) hb fin
variable {e : Expr} {σ : L2.St} {H : Hp} {p pos p1 pos1 : Pos}
/-- sorted(set(xs)) of blocks -/
theorem cp_sortedSet {l : List Nat} (hm : X.mg "sorted" = none) (hm2 : X.mg "set" = none) (he : CP X e σ H (fun v H1 => ∃ a, v = .ref a ∧ (H1 a = some (.lst (nv l)) ∨ H1 a = some (.tup (nv l))))) (hz : l.length < 64) (hc : X.calm = true := by rfl)
    (hg : Gl X "sorted" := by rfl) (hg2 : Gl X "set" := by rfl) (hs1 : Sg X e := by rfl) (hs2 : Sg X (.Call (.Name "set" p1) [e] [] pos1) := by rfl) (hpl1 : (backTo pos1 (starEach [] X.env)).any (·.1) = false := by rfl) (hpl : (backTo pos (starEach [] X.env)).any (·.1) = false := by rfl) :
    CP X (.Call (.Name "sorted" p) [.Call (.Name "set" p1) [e] [] pos1] [] pos) σ H (fun v H1 => ∃ m, NewL RNat H m v H1 ∧ m.Pairwise (· < ·) ∧ ∀ x, x ∈ m ↔ x ∈ l) := fun H0 s0 Q q =>
  ⟨_, pe_callB (cr_sortedSet hc) hg hm (by decide +kernel) (pa_cons (pe_callTy (cr_setOf hc) hg2 hm2 (by decide +kernel) (pa_cons re_pe pa_nil hs1) (by decide) (by decide) hs1 hpl1) pa_nil hs2) (by decide) (by decide) hs2 hpl, he H0 s0 _ fun v H1 s1 ⟨a, e1, h1⟩ => by
    subst e1
    have en : nv l = (l.map fun n : Nat => (n : Int)).map V.int := by rw [List.map_map]; rfl
    refine ⟨a, l.map fun n : Nat => (n : Int), rfl, ?_, by rw [List.length_map]; omega, fun b n hb hn => ?_⟩
    · rw [en] at h1
      rcases h1 with h1 | h1
      · exact .inl (SqL.of h1)
      · exact .inr (SqT.of h1)
    · refine ⟨b, _, n, rfl, upd_same, ?_, fun ns r o m len hr => ?_⟩
      · rw [List.length_map] at hn; omega
      · have hnn : ∀ k ∈ ns, ∃ x : Nat, k = (x : Int) ∧ x ∈ l := fun k hk => by
          have := (m k).mp hk
          simp only [decide_eq_true_eq, List.mem_map] at this
          obtain ⟨x, hx, e⟩ := this
          exact ⟨x, e.symm, hx⟩
        have ex : ns = (ns.map Int.toNat).map fun n : Nat => (n : Int) := by
          rw [List.map_map]
          apply Eq.symm
          have : ns.map ((fun n : Nat => (n : Int)) ∘ Int.toNat) = ns.map id := List.map_congr_left fun k hk => by
            obtain ⟨x, e, _⟩ := hnn k hk
            rw [e]; rfl
          rw [this, List.map_id]
        have s2 : Same H1 (upd H1 b (SetO X.w b (fun j => decide (j ∈ l.map fun n : Nat => (n : Int))) n)) := same_new hb
        refine q _ _ ((s1.trans s2).trans (same_new hr)) ⟨ns.map Int.toNat, ⟨r, _, rfl, ((s0.trans s1).trans s2).free hr, upd_same, ?_⟩, ?_, fun x => ?_⟩
        · have e3 : ns.map V.int = nv (ns.map Int.toNat) := by
            have : nv (ns.map Int.toNat) = ((ns.map Int.toNat).map fun n : Nat => (n : Int)).map V.int := by rw [List.map_map]; rfl
            rw [this, ← ex]
          rw [e3]
          exact nat_paired _
        · rw [List.pairwise_map]
          refine List.Pairwise.imp_of_mem (fun {a b} ha hb hab => ?_) o
          obtain ⟨x, e1, _⟩ := hnn a ha
          obtain ⟨y, e2, _⟩ := hnn b hb
          omega
        · rw [List.mem_map]
          constructor
          · rintro ⟨k, hk, rfl⟩
            obtain ⟨x, e1, hx⟩ := hnn k hk
            rw [e1]; exact hx
          · intro hx
            refine ⟨(x : Int), (m _).mpr ?_, rfl⟩
            simp only [decide_eq_true_eq, List.mem_map]
            exact ⟨x, hx, rfl⟩⟩
end
end Pz
end
section
set_option Elab.async false
set_option linter.all false
set_option maxRecDepth 100000
set_option maxHeartbeats 4000000
namespace Pz
open PySem PySem.Spec PyProof.Rows L2
section
open PySem.SeqAt
open PySem.AutoSeq1 (wpAny_loadPart')
open PySem.MeetsSeq PySem.MeetsSeq2 PySem.MeetsSeq3
theorem extend_tuple (l : Addr) (xs : Array Value) (n : Nat) (b : Addr) (ys : Array Value) (m : Nat) (dd : Option Addr) (sl : Array (Option Value)) (c0 : ¬(!xs.isEmpty && Builtin.List.listTooLong (xs.size + ys.size)) = true) (c1 : xs.size ≤ sizeLine) (c2 : xs.size + ys.size ≤ sizeLine + 1) :
    Meets (Builtin.«list.extend» ⟨[.ref l, .ref b], []⟩) (fun _ R s => s.heap.get? l = some { cls := .type "list", dict := none, data := .seq xs n, slots := #[] } ∧ s.heap.get? b = some { cls := .type "tuple", dict := dd, data := .seq ys m, slots := sl } ∧
      R (.ok (.ret Value.none)) { s with heap := s.heap.update l (Obj.mapSeq fun x => x ++ ys), toks := s.toks }) :=
  .of_wp fun prog w A R s h => by
    obtain ⟨hp, g, d, tk, os⟩ := s
    obtain ⟨hl, hb, h⟩ := h
    have f2 := sub_tuple_tuple
    have f3 := sub_list_list
    have f4 := sub_tuple_list
    have f5 := sub_list_tuple
    have z : (xs ++ ys).size ≤ sizeLine + 1 := by rw [Array.size_append]; exact c2
    wp_walk using (wpAny_updateSeq hl rfl (hz := c1) (_hz' := z)), wpAny_loadPart' hl, wpAny_loadPart' hb
    exact ⟨_, rfl, h⟩
end
section
variable {X : Cx}
/-- xs.extend(a tuple) -/
def rExtT : V → List V → Hp → VK → Prop := fun x vs H Q => ∃ l b xs zs, x = .ref l ∧ vs = [.ref b] ∧ H l = some (.lst xs) ∧ H b = some (.tup zs) ∧ xs.length + zs.length ≤ 1000 ∧ Q .non (upd H l (.lst (xs ++ zs)))
theorem mt_extT : MtM X "list.extend" rExtT := by
  intro pins s σ H x vs v us Q I rx rv h
  obtain ⟨l, b, xs, zs, rfl, rfl, hH, hB, hz, q⟩ := h
  cases rx
  obtain ⟨u, rfl, ru⟩ := rv.one
  cases ru
  have hsl := sizeLine_eq
  obtain ⟨z, its, n, r, hl, e⟩ := I.lstM hH
  obtain ⟨its2, r2, ⟨⟨oc, od, dt, sl⟩, e2, e3, m, e4⟩, hl2⟩ := I.tuple (SqT.of hB)
  simp only at e3 e4
  subst e3 e4
  have hl2' := r2.length
  have hsz : its.toArray.size + its2.toArray.size ≤ sizeLine := by rw [List.size_toArray, List.size_toArray]; omega
  have hlong : ¬ (!its.toArray.isEmpty && Builtin.List.listTooLong (its.toArray.size + its2.toArray.size)) = true := by
    rw [notLongL hsz, Bool.and_false]
    exact Bool.false_ne_true
  refine call_meets F.slot_list_extend ⟨_, e, rfl⟩ F.entry_list_extend (F.args_list_extend_2 _ _) (extend_tuple l its.toArray n b its2.toArray m od sl hlong (by rw [List.size_toArray]; omega) (by omega)) ⟨e, e2, ?_⟩
  exact ⟨.non, _, I.lset (its' := its ++ its2) hH e (by simp) (r.append r2) (by rw [List.length_append]; omega), rfl, q⟩
end
/-! ### statements that change a list that was made here -/
section
variable {X : Cx} {o e i : Expr} {D : Ends} {σ : L2.St} {H : Hp} {P : V → Hp → Prop} {pos apos cpos p1 : Pos} {l : Addr} {xs : List V}
/-- o.append(e) -/
theorem s_append (ho : CV X o σ H (.ref l)) (hl : H l = some (.lst xs)) (hz : xs.length ≤ 40000) (he : CP X e σ H P) (k : ∀ v H1, Same H H1 → P v H1 → H1 l = some (.lst xs) → D.nx σ (upd H1 l (.lst (xs ++ [v]))))
    (hbase : attributeBase o "append" X.env (eval o X.env) = eval o X.env := by rfl)
    (hfew : ((backTo cpos (starEach (e :: []) X.env)).all (fun x => !x.1) && (backToKw cpos (keywordEach [] X.env)).all (fun x => x.1.isSome)
      && decide ((e :: []).length + ([] : List Keyword).length + (if ([] : List Keyword).isEmpty then 0 else 1) < 30)) = true := by rfl)
    (hline : (apos.endLine == cpos.line) = true := by rfl) (hs : Sg X e := by rfl) (hpl : (backTo cpos (starEach [] X.env)).any (·.1) = false := by rfl) (hw : swapsWith (.Call (.Attribute o "append" apos) [e] [] cpos) none pos.line X.env = pure false := by rfl) :
    RS X (.Expr (.Call (.Attribute o "append" apos) [e] [] cpos) pos) D σ H :=
  s_expr ⟨_, pe_bm F.plainAttrs_list F.slot_list_append F.type_list_append mt_append re_pe (pa_cons re_pe pa_nil hs) hbase hfew hline hs hpl, ho H (Same.refl _) _ fun v H1 s1 ev => by
    subst ev
    refine ⟨Or.inl ⟨rfl, _, SqL.of (s1 _ _ hl)⟩, he H1 s1 _ fun u H2 s2 pu => ⟨l, xs, u, rfl, rfl, s2 _ _ (s1 _ _ hl), ?_, k u H2 (s1.trans s2) pu (s2 _ _ (s1 _ _ hl))⟩⟩
    have := sizeLine_eq
    omega⟩ hw
/-- o.extend(a tuple) -/
theorem s_extT (ho : CV X o σ H (.ref l)) (hl : H l = some (.lst xs)) {zs : List V} (he : CP X e σ H (fun v H1 => ∃ b, v = .ref b ∧ H1 b = some (.tup zs))) (hz : xs.length + zs.length ≤ 1000) (k : ∀ H1, Same H H1 → H1 l = some (.lst xs) → D.nx σ (upd H1 l (.lst (xs ++ zs))))
    (hbase : attributeBase o "extend" X.env (eval o X.env) = eval o X.env := by rfl)
    (hfew : ((backTo cpos (starEach (e :: []) X.env)).all (fun x => !x.1) && (backToKw cpos (keywordEach [] X.env)).all (fun x => x.1.isSome)
      && decide ((e :: []).length + ([] : List Keyword).length + (if ([] : List Keyword).isEmpty then 0 else 1) < 30)) = true := by rfl)
    (hline : (apos.endLine == cpos.line) = true := by rfl) (hs : Sg X e := by rfl) (hpl : (backTo cpos (starEach [] X.env)).any (·.1) = false := by rfl) (hw : swapsWith (.Call (.Attribute o "extend" apos) [e] [] cpos) none pos.line X.env = pure false := by rfl) :
    RS X (.Expr (.Call (.Attribute o "extend" apos) [e] [] cpos) pos) D σ H :=
  s_expr ⟨_, pe_bm F.plainAttrs_list F.slot_list_extend F.type_list_extend mt_extT re_pe (pa_cons re_pe pa_nil hs) hbase hfew hline hs hpl, ho H (Same.refl _) _ fun v H1 s1 ev => by
    subst ev
    exact ⟨Or.inl ⟨rfl, _, SqL.of (s1 _ _ hl)⟩, he H1 s1 _ fun u H2 s2 ⟨b, eb, hb⟩ => ⟨l, b, xs, zs, rfl, by rw [eb], s2 _ _ (s1 _ _ hl), hb, hz, k H2 (s1.trans s2) (s2 _ _ (s1 _ _ hl))⟩⟩⟩ hw
/-- o.extend(a list) -/
theorem s_extL (ho : CV X o σ H (.ref l)) (hl : H l = some (.lst xs)) {Zp : List V → Hp → Prop} (he : CP X e σ H (fun v H1 => ∃ b zs, v = .ref b ∧ H1 b = some (.lst zs) ∧ Zp zs H1)) (hz : ∀ zs H1, Zp zs H1 → xs.length + zs.length ≤ 1000) (k : ∀ zs H1, Same H H1 → Zp zs H1 → H1 l = some (.lst xs) → D.nx σ (upd H1 l (.lst (xs ++ zs))))
    (hbase : attributeBase o "extend" X.env (eval o X.env) = eval o X.env := by rfl)
    (hfew : ((backTo cpos (starEach (e :: []) X.env)).all (fun x => !x.1) && (backToKw cpos (keywordEach [] X.env)).all (fun x => x.1.isSome)
      && decide ((e :: []).length + ([] : List Keyword).length + (if ([] : List Keyword).isEmpty then 0 else 1) < 30)) = true := by rfl)
    (hline : (apos.endLine == cpos.line) = true := by rfl) (hs : Sg X e := by rfl) (hpl : (backTo cpos (starEach [] X.env)).any (·.1) = false := by rfl) (hw : swapsWith (.Call (.Attribute o "extend" apos) [e] [] cpos) none pos.line X.env = pure false := by rfl) :
    RS X (.Expr (.Call (.Attribute o "extend" apos) [e] [] cpos) pos) D σ H :=
  s_expr ⟨_, pe_bm F.plainAttrs_list F.slot_list_extend F.type_list_extend mt_extend re_pe (pa_cons re_pe pa_nil hs) hbase hfew hline hs hpl, ho H (Same.refl _) _ fun v H1 s1 ev => by
    subst ev
    refine ⟨Or.inl ⟨rfl, _, SqL.of (s1 _ _ hl)⟩, he H1 s1 _ fun u H2 s2 ⟨b, zs, eb, hb, hp⟩ => ⟨l, b, xs, zs, rfl, by rw [eb], s2 _ _ (s1 _ _ hl), hb, ?_, k zs H2 (s1.trans s2) hp (s2 _ _ (s1 _ _ hl))⟩⟩
    have := hz zs H2 hp
    have := sizeLine_eq
    omega⟩ hw
end
end Pz
end
section
set_option Elab.async false
set_option linter.all false
set_option maxRecDepth 100000
set_option maxHeartbeats 0
namespace Pz
open PySem PySem.Spec PyProof.Rows L2
def top (i : Nat) : Stmt := PySem.Challenge.pw_pitlots_k53_whole_refills_as_payments.main.body.getD i (.Pass ⟨0, 0, 0, 0⟩)
abbrev s_is_from : Stmt := top 13
abbrev s_rises : Stmt := top 14
abbrev s_is_cover : Stmt := top 15
abbrev s_G_init : Stmt := inClass (top 16) 0
abbrev s_G_len : Stmt := inClass (top 16) 2
abbrev s_need_ground : Stmt := top 17
abbrev s_is_block : Stmt := top 18
abbrev s_covers_of : Stmt := top 19
abbrev s_is_lot : Stmt := top 21
abbrev s_need_lot : Stmt := top 22
abbrev s_is_full : Stmt := top 23
abbrev s_need_pit : Stmt := top 24
abbrev s_sized : Stmt := top 25
abbrev s_pits_of : Stmt := top 26
abbrev s_need_worths : Stmt := top 29
abbrev s_sum_of : Stmt := top 30
abbrev s_greatest_of : Stmt := top 31
abbrev s_best_pits : Stmt := top 32
abbrev s_best_worth : Stmt := top 33
abbrev s_least_best : Stmt := top 34
abbrev s_greatest_best : Stmt := top 35
abbrev s_need_refills : Stmt := top 37
abbrev s_need_both : Stmt := top 38
abbrev s_lies_in : Stmt := top 39
abbrev s_without : Stmt := top 40
abbrev s_need_plan : Stmt := top 41
abbrev s_common : Stmt := top 42
abbrev s_together : Stmt := top 43
abbrev s_open_pits : Stmt := top 44
abbrev s_best_plans : Stmt := top 45
abbrev s_best_refill : Stmt := top 46
abbrev s_least_plan : Stmt := top 47
abbrev s_greatest_plan : Stmt := top 48
abbrev s_need_small : Stmt := top 51
abbrev s_doubled_of : Stmt := top 52
abbrev s_doubled : Stmt := top 53
abbrev s_doubled_worths : Stmt := top 54
abbrev s_as_pit : Stmt := top 55
abbrev s_of_pit : Stmt := top 56
abbrev s_P_init : Stmt := inClass (top 60) 0
abbrev s_P_beside : Stmt := inClass (top 60) 1
abbrev s_P_way : Stmt := inClass (top 60) 2
abbrev s_P_pay : Stmt := inClass (top 60) 3
abbrev s_greatest_payments : Stmt := top 61
abbrev s_payments : Stmt := top 62
abbrev s_is_payment : Stmt := top 63
abbrev s_sums_of : Stmt := top 64
abbrev s_are_all : Stmt := top 65
abbrev s_proves : Stmt := top 66
abbrev s_shows_best : Stmt := top 67
abbrev s_verdict : Stmt := top 68
abbrev s_law_taken : Stmt := top 70
abbrev s_law_covers : Stmt := top 73
abbrev s_law_low : Stmt := top 75
abbrev s_law : Stmt := top 76
def d_is_from : He.DefD := ⟨("is_from", none), "is_from", "is_from", defArgs s_is_from, defBody s_is_from, defScope s_is_from, [], []⟩
def d_rises : He.DefD := ⟨("rises", none), "rises", "rises", defArgs s_rises, defBody s_rises, defScope s_rises, [], []⟩
def d_is_cover : He.DefD := ⟨("is_cover", none), "is_cover", "is_cover", defArgs s_is_cover, defBody s_is_cover, defScope s_is_cover, [], []⟩
def d_G_init : He.DefD := ⟨("Ground", some "__init__"), "__init__", "Ground.__init__", defArgs s_G_init, defBody s_G_init, defScope s_G_init, [], []⟩
def d_G_len : He.DefD := ⟨("Ground", some "__len__"), "__len__", "Ground.__len__", defArgs s_G_len, defBody s_G_len, defScope s_G_len, [], []⟩
def d_need_ground : He.DefD := ⟨("need_ground", none), "need_ground", "need_ground", defArgs s_need_ground, defBody s_need_ground, defScope s_need_ground, [], []⟩
def d_is_block : He.DefD := ⟨("is_block", none), "is_block", "is_block", defArgs s_is_block, defBody s_is_block, defScope s_is_block, [], []⟩
def d_covers_of : He.DefD := ⟨("covers_of", none), "covers_of", "covers_of", defArgs s_covers_of, defBody s_covers_of, defScope s_covers_of, [], []⟩
def d_is_lot : He.DefD := ⟨("is_lot", none), "is_lot", "is_lot", defArgs s_is_lot, defBody s_is_lot, defScope s_is_lot, [], []⟩
def d_need_lot : He.DefD := ⟨("need_lot", none), "need_lot", "need_lot", defArgs s_need_lot, defBody s_need_lot, defScope s_need_lot, [], []⟩
def d_is_full : He.DefD := ⟨("is_full", none), "is_full", "is_full", defArgs s_is_full, defBody s_is_full, defScope s_is_full, [], []⟩
def d_need_pit : He.DefD := ⟨("need_pit", none), "need_pit", "need_pit", defArgs s_need_pit, defBody s_need_pit, defScope s_need_pit, [], []⟩
def d_sized : He.DefD := ⟨("sized", none), "sized", "sized", defArgs s_sized, defBody s_sized, defScope s_sized, [], []⟩
def d_pits_of : He.DefD := ⟨("pits_of", none), "pits_of", "pits_of", defArgs s_pits_of, defBody s_pits_of, defScope s_pits_of, [], []⟩
def d_need_worths : He.DefD := ⟨("need_worths", none), "need_worths", "need_worths", defArgs s_need_worths, defBody s_need_worths, defScope s_need_worths, [], []⟩
def d_sum_of : He.DefD := ⟨("sum_of", none), "sum_of", "sum_of", defArgs s_sum_of, defBody s_sum_of, defScope s_sum_of, [], []⟩
def d_greatest_of : He.DefD := ⟨("greatest_of", none), "greatest_of", "greatest_of", defArgs s_greatest_of, defBody s_greatest_of, defScope s_greatest_of, [], []⟩
def d_best_pits : He.DefD := ⟨("best_pits", none), "best_pits", "best_pits", defArgs s_best_pits, defBody s_best_pits, defScope s_best_pits, [], []⟩
def d_best_worth : He.DefD := ⟨("best_worth", none), "best_worth", "best_worth", defArgs s_best_worth, defBody s_best_worth, defScope s_best_worth, [], []⟩
def d_least_best : He.DefD := ⟨("least_best", none), "least_best", "least_best", defArgs s_least_best, defBody s_least_best, defScope s_least_best, [], []⟩
def d_greatest_best : He.DefD := ⟨("greatest_best", none), "greatest_best", "greatest_best", defArgs s_greatest_best, defBody s_greatest_best, defScope s_greatest_best, [], []⟩
def d_need_refills : He.DefD := ⟨("need_refills", none), "need_refills", "need_refills", defArgs s_need_refills, defBody s_need_refills, defScope s_need_refills, [], []⟩
def d_need_both : He.DefD := ⟨("need_both", none), "need_both", "need_both", defArgs s_need_both, defBody s_need_both, defScope s_need_both, [], []⟩
def d_lies_in : He.DefD := ⟨("lies_in", none), "lies_in", "lies_in", defArgs s_lies_in, defBody s_lies_in, defScope s_lies_in, [], []⟩
def d_without : He.DefD := ⟨("without", none), "without", "without", defArgs s_without, defBody s_without, defScope s_without, [], []⟩
def d_need_plan : He.DefD := ⟨("need_plan", none), "need_plan", "need_plan", defArgs s_need_plan, defBody s_need_plan, defScope s_need_plan, [], []⟩
def d_common : He.DefD := ⟨("common", none), "common", "common", defArgs s_common, defBody s_common, defScope s_common, [], []⟩
def d_together : He.DefD := ⟨("together", none), "together", "together", defArgs s_together, defBody s_together, defScope s_together, [], []⟩
def d_open_pits : He.DefD := ⟨("open_pits", none), "open_pits", "open_pits", defArgs s_open_pits, defBody s_open_pits, defScope s_open_pits, [], []⟩
def d_best_plans : He.DefD := ⟨("best_plans", none), "best_plans", "best_plans", defArgs s_best_plans, defBody s_best_plans, defScope s_best_plans, [], []⟩
def d_best_refill : He.DefD := ⟨("best_refill", none), "best_refill", "best_refill", defArgs s_best_refill, defBody s_best_refill, defScope s_best_refill, [], []⟩
def d_least_plan : He.DefD := ⟨("least_plan", none), "least_plan", "least_plan", defArgs s_least_plan, defBody s_least_plan, defScope s_least_plan, [], []⟩
def d_greatest_plan : He.DefD := ⟨("greatest_plan", none), "greatest_plan", "greatest_plan", defArgs s_greatest_plan, defBody s_greatest_plan, defScope s_greatest_plan, [], []⟩
def d_need_small : He.DefD := ⟨("need_small", none), "need_small", "need_small", defArgs s_need_small, defBody s_need_small, defScope s_need_small, [], []⟩
def d_doubled_of : He.DefD := ⟨("doubled_of", none), "doubled_of", "doubled_of", defArgs s_doubled_of, defBody s_doubled_of, defScope s_doubled_of, [], []⟩
def d_doubled : He.DefD := ⟨("doubled", none), "doubled", "doubled", defArgs s_doubled, defBody s_doubled, defScope s_doubled, [], []⟩
def d_doubled_worths : He.DefD := ⟨("doubled_worths", none), "doubled_worths", "doubled_worths", defArgs s_doubled_worths, defBody s_doubled_worths, defScope s_doubled_worths, [], []⟩
def d_as_pit : He.DefD := ⟨("as_pit", none), "as_pit", "as_pit", defArgs s_as_pit, defBody s_as_pit, defScope s_as_pit, [], []⟩
def d_of_pit : He.DefD := ⟨("of_pit", none), "of_pit", "of_pit", defArgs s_of_pit, defBody s_of_pit, defScope s_of_pit, [], []⟩
def d_P_init : He.DefD := ⟨("Purses", some "__init__"), "__init__", "Purses.__init__", defArgs s_P_init, defBody s_P_init, defScope s_P_init, [], []⟩
def d_P_beside : He.DefD := ⟨("Purses", some "beside"), "beside", "Purses.beside", defArgs s_P_beside, defBody s_P_beside, defScope s_P_beside, [], []⟩
def d_P_way : He.DefD := ⟨("Purses", some "way"), "way", "Purses.way", defArgs s_P_way, defBody s_P_way, defScope s_P_way, [], []⟩
def d_P_pay : He.DefD := ⟨("Purses", some "pay"), "pay", "Purses.pay", defArgs s_P_pay, defBody s_P_pay, defScope s_P_pay, [], []⟩
def d_greatest_payments : He.DefD := ⟨("greatest_payments", none), "greatest_payments", "greatest_payments", defArgs s_greatest_payments, defBody s_greatest_payments, defScope s_greatest_payments, [], []⟩
def d_payments : He.DefD := ⟨("payments", none), "payments", "payments", defArgs s_payments, defBody s_payments, defScope s_payments, [], []⟩
def d_is_payment : He.DefD := ⟨("is_payment", none), "is_payment", "is_payment", defArgs s_is_payment, defBody s_is_payment, defScope s_is_payment, [], []⟩
def d_sums_of : He.DefD := ⟨("sums_of", none), "sums_of", "sums_of", defArgs s_sums_of, defBody s_sums_of, defScope s_sums_of, [], []⟩
def d_are_all : He.DefD := ⟨("are_all", none), "are_all", "are_all", defArgs s_are_all, defBody s_are_all, defScope s_are_all, [], []⟩
def d_proves : He.DefD := ⟨("proves", none), "proves", "proves", defArgs s_proves, defBody s_proves, defScope s_proves, [], []⟩
def d_shows_best : He.DefD := ⟨("shows_best", none), "shows_best", "shows_best", defArgs s_shows_best, defBody s_shows_best, defScope s_shows_best, [], []⟩
def d_verdict : He.DefD := ⟨("verdict", none), "verdict", "verdict", defArgs s_verdict, defBody s_verdict, defScope s_verdict, [], []⟩
def d_law_taken : He.DefD := ⟨("_law_taken", none), "_law_taken", "_law_taken", defArgs s_law_taken, defBody s_law_taken, defScope s_law_taken, [], []⟩
def d_law_covers : He.DefD := ⟨("_law_covers", none), "_law_covers", "_law_covers", defArgs s_law_covers, defBody s_law_covers, defScope s_law_covers, [], []⟩
def d_law_low : He.DefD := ⟨("_law_low", none), "_law_low", "_law_low", defArgs s_law_low, defBody s_law_low, defScope s_law_low, [], []⟩
def d_law : He.DefD := ⟨("law", none), "law", "law", defArgs s_law, defBody s_law, defScope s_law, [], []⟩
def fn1 : List He.DefD := [d_is_from, d_rises, d_is_cover, d_G_init, d_G_len, d_need_ground, d_is_block, d_covers_of, d_is_lot, d_need_lot, d_is_full, d_need_pit, d_sized, d_pits_of, d_need_worths, d_sum_of, d_greatest_of, d_best_pits, d_best_worth, d_least_best, d_greatest_best, d_need_refills, d_need_both, d_lies_in, d_without]
def fn2 : List He.DefD := [d_need_plan, d_common, d_together, d_open_pits, d_best_plans, d_best_refill, d_least_plan, d_greatest_plan, d_need_small, d_doubled_of, d_doubled, d_doubled_worths, d_as_pit, d_of_pit, d_P_init, d_P_beside, d_P_way, d_P_pay, d_greatest_payments, d_payments, d_is_payment, d_sums_of, d_are_all, d_proves, d_shows_best, d_verdict, d_law_taken, d_law_covers, d_law_low, d_law]
def fn : List He.DefD := fn1 ++ fn2
def fa0 : List He.Fa := [.glo "is_from", .glo "rises", .glo "is_cover", .glo "need_ground", .glo "is_block", .glo "covers_of", .glo "is_lot", .glo "need_lot", .glo "is_full", .glo "need_pit", .glo "sized", .glo "pits_of", .glo "need_worths", .glo "sum_of", .glo "greatest_of", .glo "best_pits", .glo "best_worth", .glo "least_best", .glo "greatest_best", .glo "need_refills", .glo "need_both", .glo "lies_in", .glo "without", .glo "need_plan", .glo "common"]
def fa1 : List He.Fa := [.glo "together", .glo "open_pits", .glo "best_plans", .glo "best_refill", .glo "least_plan", .glo "greatest_plan", .glo "need_small", .glo "doubled_of", .glo "doubled", .glo "doubled_worths", .glo "as_pit", .glo "of_pit", .glo "greatest_payments", .glo "payments", .glo "is_payment", .glo "sums_of", .glo "are_all", .glo "proves", .glo "shows_best", .glo "verdict", .glo "_law_taken", .glo "_law_covers", .glo "_law_low", .glo "law", .glo "Ground"]
def fa2 : List He.Fa := [.glo "Purses", .keep "Ground", .keep "Purses", .free "len", .free "isinstance", .free "int", .free "bool", .free "tuple", .free "all", .free "range", .free "enumerate", .free "list", .free "sorted", .free "set", .free "sum", .free "max", .free "min", .free "zip", .int "MOST_BLOCKS" 10, .int "MOST_WORTH" 50, .int "MOST_DOUBLED" 5, .str "BEST" "best", .cls "Ground", .cls "Purses", .mkr "Ground"]
def fa3 : List He.Fa := [.mkr "Purses", .noat "Ground" "table", .meth "Ground" "__len__", .noat "Purses" "told", .noat "Purses" "left", .noat "Purses" "first", .noat "Purses" "given", .meth "Purses" "beside", .meth "Purses" "way", .meth "Purses" "pay"]
def fa : List He.Fa := fa0 ++ fa1 ++ fa2 ++ fa3
def lo0 : List Str := ["PitError", "BadGround", "BadLot", "NotPit", "BadWorths", "BadCovers", "BadRefills", "NotWithin", "TooGreat", "TooHigh", "MOST_BLOCKS", "is_from", "rises", "is_cover", "Ground", "need_ground", "is_block", "covers_of", "is_lot", "need_lot", "is_full", "need_pit", "sized", "pits_of", "MOST_WORTH", "need_worths", "sum_of", "greatest_of", "best_pits", "best_worth"]
def lo1 : List Str := ["least_best", "greatest_best", "need_refills", "need_both", "lies_in", "without", "need_plan", "common", "together", "open_pits", "best_plans", "best_refill", "least_plan", "greatest_plan", "MOST_DOUBLED", "need_small", "doubled_of", "doubled", "doubled_worths", "as_pit", "of_pit", "BEST", "BETTER", "Purses", "greatest_payments", "payments", "is_payment", "sums_of", "are_all", "proves"]
def lo2 : List Str := ["shows_best", "verdict", "_law_taken", "_law_pick", "_law_alike", "_law_covers", "_law_worths", "_law_low"]
def lo : List Str := lo0 ++ lo1 ++ lo2

/-- what isinstance(x, Ground) asks of the class -/
def isiB (K : PySem.W.Frag) : Bool := He.eqO (PySem.W.findIn K (.ref (He.ga K "Ground")) "__class__") (some (some (.builtin "object.__class__"))) &&
  (He.eqO (PySem.W.specialIn K (.builtin "object.__class__") "__get__") (some (some (.builtin "getset_descriptor.__get__"))) &&
  (decide (PySem.W.takesIn K (.builtin "object.__class__") = some true) && decide (PySem.W.mroIn K (He.ga K "Ground") (.type "object") = some true)))
abbrev AlZ : Type := He.AlD × Bool
def obsZ (n : Nat) (g : Addr → Option Obj) : AlZ := (He.obsD fa fn (He.frG g (He.asD g n)), isiB (He.frG g (He.asD g n)))
def valZ : AlZ := (He.valD fn, true)
def hookZ (n : Nat) : PySem.W.Hook where
  α := AlZ
  obs := fun s => obsZ n s.heap.get?
  val := fun _ => valZ
  says := fun _ h => ∃ K : PySem.W.Frag, K.In h ∧ He.SaysD fa fn K ∧ isiB K = true
  of := fun _ _ e => ⟨_, He.frG_in, congrArg (fun z : AlZ => z.1) e, congrArg (fun z : AlZ => z.2) e⟩
  keeps := fun _ _ _ ⟨K, hK, c⟩ k => ⟨K, PySem.W.Frag.In.keeps hK k, c⟩
theorem obsZ_eq {n : Nat} {g : Addr → Option Obj} {s : Shared} (h : ∀ a, g a = s.heap.get? a) : obsZ n g = (hookZ n).obs s := by
  have e : g = s.heap.get? := funext h
  rw [e] <;> rfl
abbrev R : PySem.W.OpenRow := PySem.W.OpenLaw.row PySem.Challenge.rw_pitlots_k53_whole_refills_as_payments
abbrev hk : PySem.W.Hook := hookZ 5
def ob (s : PySem.W.SharedT) : AlZ := obsZ 5 (HandSHeadRun.getT s)
theorem ob_eq (s : PySem.W.SharedT) : ob s = hk.obs s.abs := obsZ_eq (HandSHeadRun.getT_eq s)
theorem run (w : World) : HandSHeadRun.RunEq R (PySem.W.view R.prog [76]) hk ob 6000 lo w := by
  intro os
  kernel_rfl
end Pz
end
section
set_option Elab.async false
set_option linter.all false
set_option maxRecDepth 100000
set_option maxHeartbeats 4000000
namespace Pz
open PySem PySem.Spec PyProof.Rows L2
abbrev CG (K : PySem.W.Frag) : Addr := He.ga K "Ground"
abbrev CU (K : PySem.W.Frag) : Addr := He.ga K "Purses"
/-- what the top has left, by names -/
structure Tx (K : PySem.W.Frag) (mg : Str → Option Value) : Prop where
  len : mg "len" = none
  isi : mg "isinstance" = none
  int : mg "int" = none
  bool : mg "bool" = none
  tuple : mg "tuple" = none
  all : mg "all" = none
  range : mg "range" = none
  enum : mg "enumerate" = none
  list : mg "list" = none
  sorted : mg "sorted" = none
  set : mg "set" = none
  sum : mg "sum" = none
  max : mg "max" = none
  min : mg "min" = none
  zip : mg "zip" = none
  mostB : ∃ t, mg "MOST_BLOCKS" = some (.int 10 t)
  mostW : ∃ t, mg "MOST_WORTH" = some (.int 50 t)
  mostD : ∃ t, mg "MOST_DOUBLED" = some (.int 5 t)
  best : ∃ t, mg "BEST" = some (.str "best" t)
  gG : mg "Ground" = some (.ref (CG K))
  gU : mg "Purses" = some (.ref (CU K))
  cG : Cls K (CG K)
  cU : Cls K (CU K)
  mkG : Mk K (CG K) (He.ma K (CG K) "__init__")
  mkU : Mk K (CU K) (He.ma K (CU K) "__init__")
  nT : NoAttr K (CG K) "table"
  mL : Meth K (CG K) "__len__" (He.ma K (CG K) "__len__")
  nTold : NoAttr K (CU K) "told"
  nLeft : NoAttr K (CU K) "left"
  nFirst : NoAttr K (CU K) "first"
  nGiven : NoAttr K (CU K) "given"
  mB : Meth K (CU K) "beside" (He.ma K (CU K) "beside")
  mW : Meth K (CU K) "way" (He.ma K (CU K) "way")
  mP : Meth K (CU K) "pay" (He.ma K (CU K) "pay")
  i1 : PySem.W.findIn K (.ref (CG K)) "__class__" = some (some (.builtin "object.__class__"))
  i2 : PySem.W.specialIn K (.builtin "object.__class__") "__get__" = some (some (.builtin "getset_descriptor.__get__"))
  i3 : PySem.W.takesIn K (.builtin "object.__class__") = some true
  i4 : PySem.W.mroIn K (CG K) (.type "object") = some true
/-! ### isinstance -/
section
variable {X : Cx} {a c : Expr} {σ : L2.St} {H : Hp} {P : V → Hp → Prop} {p q pos : Pos}
theorem cv_isiTy {n : Str} {t : Value} {u : String} {b : Bool} (hm : X.mg "isinstance" = none) (hn : X.mg n = none) (hv : bootBuiltins n = some (.type u)) (ha : CP X a σ H P) (mp : Mon P)
    (ty : ∀ v H1, Same H H1 → P v H1 → TyX X.K H1 v t) (k : PySem.W.kitOne X.K t (.type u) = some b) (hg : Gl X "isinstance" := by rfl) (hg2 : Gl X n := by rfl) (h1 : n ≠ "__name__" := by decide) (h2 : (n == ("__debug__" : Str)) = false := by decide)
    (s1 : starEach (a :: [.Name n q]) X.env = (false, eval a X.env) :: starEach [.Name n q] X.env := by rfl) (s2 : starEach (.Name n q :: []) X.env = (false, eval (.Name n q) X.env) :: starEach [] X.env := by rfl)
    (hpl : (backTo pos (starEach [Expr.Name n q] X.env)).any (·.1) = false := by rfl) : CV X (.Call (.Name "isinstance" p) [a, .Name n q] [] pos) σ H (.bl b) :=
  cp_callB call_isi hg hm (by decide +kernel) (ca_cons ha (ca_v (cv_blt (v := .ty u) hg2 hn hv rfl h1 h2) ca_nil s2) mp s1) (fun vs H1 sH ⟨v, r, e, pv, er⟩ Q k' => by
    subst e er
    exact ⟨v, .ty u, t, .type u, b, rfl, .ty u, ty v H1 sH pv, k, k' _ H1 (Same.refl _) rfl⟩) (he := s1) (hpl := hpl)
end
end Pz
end
section
set_option Elab.async false
set_option linter.all false
set_option maxRecDepth 100000
set_option maxHeartbeats 4000000
namespace Pz
open PySem PySem.Spec PyProof.Rows L2
section
variable {P : Program} {w : World} {K : PySem.W.Frag} {mg : Str → Option Value} {base : Heap}
/-! ### is_from -/
def aFrom (i : Int × Int × Int) (vs : List V) (_ : Hp) : Prop := vs = [.int i.1, .int i.2.1, .int i.2.2]
def rFrom (i : Int × Int × Int) (v : V) (_ : Hp) : Prop := v = .bl (decide (i.2.1 ≤ i.1) && decide (i.1 ≤ i.2.2))
abbrev PFrom (P : Program) (w : World) (K : PySem.W.Frag) (mg : Str → Option Value) (base : Heap) : Prop := Pm P w K mg base "is_from" 1 ["value", "low", "high"] (SpI aFrom rFrom)
theorem sc_is_from : FnScope ["value", "low", "high"] ["value", "low", "high"] (defScope s_is_from) := ⟨rfl, rfl, rfl, by decide +kernel, rfl, by decide +kernel, by decide +kernel⟩
theorem tyx_int {H : Hp} {i : Int} : TyX K H (.int i) (.type "int") := .base (.int i)
theorem ok_is_from (T : Tx K mg) (D : Df K mg "is_from" s_is_from) : PFrom P w K mg base := by
  refine D.pm sc_is_from (fun _ _ _ _ _ _ us hl => match us, hl with | [_, _, _], _ => rfl) (fun vs H Q E h => ?_) (fun f cdv A outer s H vs Q E hr h => ?_)
  · obtain ⟨i, rfl, _⟩ := h; rfl
  · obtain ⟨⟨i, lo, hi⟩, rfl, k⟩ := h
    refine ss_one (s_ret (P := fun v _ => v = .bl (decide (lo ≤ i) && decide (i ≤ hi))) (CP.imp (cv_and (k := true) (l := decide (lo ≤ i) && decide (i ≤ hi)) ?_ fun _ => cv_and (k := true) (l := decide (lo ≤ i) && decide (i ≤ hi)) ?_ fun _ => cv_one ?_) fun v H1 _ e => e) fun v H1 s1 e => k v H1 s1 e)
    · exact cv_isiTy (u := "int") T.isi T.int (by decide +kernel) (cv_var 0 rfl) (mon_eq _) (fun v H1 _ e => by subst e; exact tyx_int) (kit_ty (by decide +kernel))
    · exact cv_not (k := false) (cv_isiTy (u := "bool") T.isi T.bool (by decide +kernel) (cv_var 0 rfl) (mon_eq _) (fun v H1 _ e => by subst e; exact tyx_int) (kit_ty (by decide +kernel)))
    · exact cv_chain op_le op_le (cv_var 1 rfl) (cv_var 0 rfl) (cv_var 2 rfl)
/-! ### rises -/
def aAsc (l : List Nat) (vs : List V) (H : Hp) : Prop := ∃ v, vs = [v] ∧ IsL H l v ∧ Pt.Asc l ∧ l.length ≤ 1000
def rTrue {ι : Type} (_ : ι) (v : V) (_ : Hp) : Prop := v = .bl true
abbrev PRises (P : Program) (w : World) (K : PySem.W.Frag) (mg : Str → Option Value) (base : Heap) : Prop := Pm P w K mg base "rises" 1 ["value"] (SpI aAsc rTrue)
theorem sc_rises : FnScope ["value", "at"] ["value"] (defScope s_rises) := ⟨rfl, rfl, rfl, by decide +kernel, rfl, by decide +kernel, by decide +kernel⟩
theorem all_true {δ : Type} (ds : List δ) : (ds.map fun _ => true).all id = true := by
  induction ds with
  | nil => rfl
  | cons a l ih => rw [List.map_cons, List.all_cons, ih]; rfl
theorem asc_at {l : List Nat} (h : Pt.Asc l) {i : Nat} {a b : Nat} (ha : l[i]? = some a) (hb : l[i + 1]? = some b) : a < b := by
  obtain ⟨h1, e1⟩ := List.getElem?_eq_some_iff.mp ha
  obtain ⟨h2, e2⟩ := List.getElem?_eq_some_iff.mp hb
  have := List.pairwise_iff_getElem.mp h i (i + 1) h1 h2 (by omega)
  rw [e1, e2] at this
  exact this
theorem ok_rises (T : Tx K mg) (D : Df K mg "rises" s_rises) : PRises P w K mg base := by
  refine D.pm sc_rises (fun _ _ _ _ _ _ us hl => match us, hl with | [_], _ => rfl) (fun vs H Q E h => ?_) (fun f cdv A outer s H vs Q E hr h => ?_)
  · obtain ⟨i, ⟨v, rfl, _⟩, _⟩ := h; rfl
  · obtain ⟨l, ⟨v, rfl, hl, ha, hz⟩, k⟩ := h
    refine ss_one (s_ret (cv_all T.all (lc_new (cp_lc1 [("at", 1)] (j := 1) (fun _ => true) (fun _ => true) RBl
      (ci_range2 (lo := 1) (hi := (l.length : Int)) rfl T.range cv_int (cv_len T.len (cv_var 0 rfl) (fun u H1 s1 e => ?_)) ⟨by omega, by omega, by omega, by omega⟩) (fun _ _ _ => trivial) rt_bl ?_ ?_ rfl sc_rises.nd
      (blkOk_by (own := [("at", 1)]) (N := ["value", "at"]) (sc := defScope s_rises) (by decide +kernel)) (fun _ _ _ _ _ => pg_name (i := 1) sc_rises.nd rfl (Or.inl rfl)) (fun _ => rfl)))) fun u H1 s1 e => k u H1 s1 ?_)
    · subst e
      exact (isL_tup.mp (hl.m s1)).sized
    · rw [List.length_map, List.length_range]; omega
    · intro s0 H0 C cl fp d x H' hd s1 hx
      refine ⟨cts_nil, fun _ => ?_⟩
      obtain ⟨i, hi, rfl⟩ := List.mem_map.mp hd
      rw [List.mem_range] at hi
      have hx : x = .int (1 + (i : Int)) := hx
      subst hx
      have h1 : i < l.length := by omega
      have h2 : i + 1 < l.length := by omega
      refine CP.imp (cv_lt (i := (l[i] : Int)) (j := (l[i + 1] : Int)) ?_ ?_) fun u H2 s2 e => ?_
      · exact cp_ixT (R := RNat) (ds := l) (d := l[i]) (i := 1 + (i : Int) - 1) ((cv_var 0 rfl).imp fun u H2 s2 e => by subst e; exact isL_tup.mp ((hl.m s1).m s2)) (cv_sub (cv_var 1 rfl) cv_int) (by rw [show (1 : Int) + (i : Int) - 1 = (i : Int) by omega]; exact atI_nat (List.getElem?_eq_getElem h1)) rt_nat.m
      · exact cp_ixT (R := RNat) (ds := l) (d := l[i + 1]) (i := 1 + (i : Int)) ((cv_var 0 rfl).imp fun u H2 s2 e => by subst e; exact isL_tup.mp ((hl.m s1).m s2)) (cv_var 1 rfl) (by rw [show (1 : Int) + (i : Int) = ((i + 1 : Nat) : Int) by omega]; exact atI_nat (List.getElem?_eq_getElem h2)) rt_nat.m
      · rw [e]
        have := asc_at ha (List.getElem?_eq_getElem h1) (List.getElem?_eq_getElem h2)
        show V.bl _ = V.bl true
        rw [decide_eq_true (by omega)]
    · rw [e, all_true]; rfl
end
end Pz
end
section
set_option Elab.async false
set_option linter.all false
set_option maxRecDepth 100000
set_option maxHeartbeats 4000000
namespace Pz
open PySem PySem.Spec PyProof.Rows L2
section
open PySem.AutoSeq1 (wpAny_loadPart')
theorem enumerate_newT (l : Addr) (items : Array Value) (n : Nat) (dct : Option Addr) (sl : Array (Option Value)) :
    Meets (Builtin.«enumerate.__new__» ⟨[.type "enumerate", .ref l], []⟩) (fun _ R s => s.heap.get? l = some { cls := .type "tuple", dict := dct, data := .seq items n, slots := sl } ∧
      R (.ok (.ret (.ref (s.heap.push { cls := .type "tuple_iterator", data := .fields #[.ref l, .int 0 0] }).objs.size)))
        { s with heap := (s.heap.push { cls := .type "tuple_iterator", data := .fields #[.ref l, .int 0 0] }).push { cls := .type "enumerate", data := .fields #[.none, .bool false, .ref s.heap.objs.size, rawInt 0, .none, .none] } }) :=
  .of_wp fun prog w A R s h => by
    obtain ⟨hp, g, d, tk, os⟩ := s; obtain ⟨hl, h⟩ := h
    have hsub := sub_enumerate
    have hL : Heap.IsTuple (Shared.heap ⟨hp, g, d, tk, os⟩) l items := ⟨_, hl, rfl, n, rfl⟩
    wp_walk using wpAny_loadPart' hl
    refine wpAny_stack_any fun st => wpAny_pure ?_
    split
    · rename_i c _ _ _ _ _
      cases (c == Value.type "enumerate")
      · wp_walk using wpAny_loadPart' hl, wpAny_pyIter_tuple hL
        exact ⟨_, rfl, h⟩
      · wp_walk using wpAny_loadPart' hl, wpAny_pyIter_tuple hL
        exact ⟨_, rfl, h⟩
    · wp_walk using wpAny_loadPart' hl, wpAny_pyIter_tuple hL
      exact ⟨_, rfl, h⟩
end
section
variable {prog : Program} {w : World} {A : Around} {E : Value → Shared → Prop} {s : Shared}
theorem call_enumT {l : Addr} {items : Array Value} {Q : Value → Shared → Prop} (hL : s.heap.IsTuple l items)
    (h : ∀ h', IsEnum h' (s.heap.objs.size + 1) s.heap.objs.size 0 .none → h'.IsTupleIter s.heap.objs.size l 0 → h'.objs.size = s.heap.objs.size + 2 →
      (∀ b o, s.heap.get? b = some o → h'.get? b = some o) → Q (.ref (s.heap.objs.size + 1)) { s with heap := h' }) :
    wpAny (model prog w) A (call (.type "enumerate") [.ref l]) Q E s := by
  obtain ⟨⟨c, dct, dt, sl⟩, hl, hc, n, hd⟩ := hL
  replace hc : c = .type "tuple" := hc
  replace hd : dt = .seq items n := hd
  subst hc hd
  refine callType_new F.called_enumerate (by decide) (F.typeCall_enumerate_1 _) (F.newCall_enumerate_1 _) (fun obj => F.args_object_init_2 obj _) F.entry_enumerate_new
    (enumerate_newT l items n dct sl) ⟨hl, ?_⟩
  have hz : (s.heap.push { cls := .type "tuple_iterator", data := .fields #[.ref l, .int 0 0] }).objs.size = s.heap.objs.size + 1 := Heap.size_push ..
  show _ ∧ _
  rw [hz]
  have he : IsEnum ((s.heap.push { cls := .type "tuple_iterator", data := .fields #[.ref l, .int 0 0] }).push
      { cls := .type "enumerate", data := .fields #[.none, .bool false, .ref s.heap.objs.size, rawInt 0, .none, .none] }) (s.heap.objs.size + 1) s.heap.objs.size 0 .none := by
    have := Heap.get?_push_size (s.heap.push { cls := .type "tuple_iterator", data := .fields #[.ref l, .int 0 0] })
      (o := { cls := .type "enumerate", data := .fields #[.none, .bool false, .ref s.heap.objs.size, rawInt 0, .none, .none] }) rfl
    rw [hz] at this; exact this
  refine ⟨⟨_, he, rfl⟩, h _ he ⟨_, Heap.get?_push_of_some _ (Heap.get?_push_size _ rfl), rfl, rfl⟩ (by rw [Heap.size_push, hz]) fun b o x => Heap.get?_push_of_some _ (Heap.get?_push_of_some _ x)⟩
end
/-- the tuple at a, each item in a new pair -/
def IteT (K : PySem.W.Frag) (a : Addr) : It :=
  ⟨fun i H => ∃ (xs : List V) (x : V), SqT K H a xs ∧ xs[i]? = some x, fun i H v H' => ∃ T x, v = .ref T ∧ H T = none ∧ H' = upd H T (.tup [.int (i : Nat), x]) ∧ ∀ xs, SqT K H a xs → xs[i]? = some x, fun i H => ∃ xs : List V, SqT K H a xs ∧ xs.length ≤ i⟩
theorem turn_enumT {P : Program} {w : World} {K : PySem.W.Frag} {elts : List Expr} {kk : Nat} {tpos : Pos} (a e it : Addr) :
    Turn P w K (.Tuple elts kk tpos) (IteT K a) [e, it] e (fun i h => (∃ old, IsEnum h e it ((i : Nat) : Int) old) ∧ h.IsTupleIter it a i ∧ e ≠ it ∧ a ≠ it ∧ e ≠ a) where
  mem := by simp
  obj := fun i h st b hb => by
    obtain ⟨⟨old, he⟩, ⟨o, ho, hc, hd⟩, _⟩ := st
    have e' : b = e ∨ b = it := by simpa using hb
    rcases e' with z | z
    · rw [z]; exact ⟨_, he, fun v q => nomatch q⟩
    · rw [z]; exact ⟨o, ho, fun v q => by rw [hd] at q; cases q⟩
  keep := fun i h h' st k => let ⟨⟨old, he⟩, hi, hne⟩ := st; ⟨⟨old, k e (by simp) _ he⟩, hi.at fun o q => k it (by simp) o q, hne⟩
  item := by
    intro X hP hw hK hc i pins s σ H E I hf st hg
    subst hP hw hK
    obtain ⟨⟨old, he⟩, hit, hne, hna, hea⟩ := st
    obtain ⟨xs, x, hq, hx⟩ := hg
    obtain ⟨its, rv, p, hz⟩ := I.tuple hq
    obtain ⟨u, hu, ru⟩ := rv.get hx
    have hlt : i < its.length := by
      rcases Nat.lt_or_ge i its.length with z | z
      · exact z
      · rw [List.getElem?_eq_none z] at hu; cases hu
    have hel : e < s.heap.objs.size := Heap.lt_size he
    have hil : it < s.heap.objs.size := by obtain ⟨_, q, _⟩ := hit; exact Heap.lt_size q
    refine wpAny_pyNext_enum_itemC (Draws.tuple (A := X.A.in1) (show X.A.in1.handled = none from I.ok.hd hc) it a hna its.toArray) he ⟨hit, p⟩ (by simpa using hlt) hne (by simp [hne, hea]) fun u' h' tk' hP' ho hst' hT hsz hk => ?_
    have eu : u' = u := by
      have hP' : its.toArray[i]? = some u' := hP'
      rw [List.getElem?_toArray, hu] at hP'
      exact (Option.some.inj hP').symm
    subst eu
    refine ⟨_, rfl, wpAny_letOwnedTupleGo_enum (s := { s with heap := h', toks := tk' + 1 }) ho fun h'' he' sb => ?_⟩
    have hT2 : h''.get? s.heap.objs.size = some { cls := .type "tuple", data := .seq #[.int i tk', u'] } := (sb.2 _ (Nat.ne_of_gt hel)).trans hT
    have new : ObjOk X.prog X.w (upd H s.heap.objs.size (.tup [.int (i : Nat), x])) h'' s.heap.objs.size (.tup [.int (i : Nat), x]) :=
      ⟨by show 2 ≤ sizeLine; decide, [.int i tk', u'], .cons ⟨_, rfl⟩ (.cons ru .nil), ⟨_, hT2, rfl, _, rfl⟩⟩
    have I1 : Inv X pins σ (upd H s.heap.objs.size (.tup [.int (i : Nat), x])) { s with heap := h'', toks := tk' + 1 } :=
      I.turnedNew (ch := [e, it]) (fun b ob hb q => (sb.2 b (fun z => hb (by simp [z]))).trans (hk b ob (fun z => hb (by simp [z])) (fun z => hb (by simp [z])) q)) hf (Nat.le_refl _) new
    refine ⟨.ref s.heap.objs.size, _, I1, rfl, ⟨_, x, rfl, I.hok.fresh (Nat.le_refl _), rfl, fun ys hy => by rw [I.tuple_inj hy hq]; exact hx⟩, ⟨⟨u', ?_⟩, hst'.1.at fun o q => (sb.2 it (Ne.symm hne)).trans q, hne, hna, hea⟩, fun b hb => ?_⟩
    · have e1 : ((i + 1 : Nat) : Int) = (i : Int) + 1 := by omega
      rw [e1]; exact he'
    · have hb' : b < s.heap.objs.size := by
        have e' : b = e ∨ b = it := by simpa using hb
        rcases e' with z | z
        · rw [z]; exact hel
        · rw [z]; exact hil
      rw [upd_ne (Nat.ne_of_lt hb')]
      exact (hf b hb).1
  done := by
    intro X hP hw hK hc i pins s σ H E I hf st hg
    subst hP hw hK
    obtain ⟨⟨old, he⟩, hit, hne, hna, hea⟩ := st
    obtain ⟨xs, hq, hx⟩ := hg
    obtain ⟨its, rv, p, hz⟩ := I.tuple hq
    obtain ⟨f0, f1, f2, f3, f4, f5⟩ := hf it (by simp)
    have hl := rv.length
    have hT : s.TypeIs (.ref e) "enumerate" := ⟨_, he, rfl⟩
    unfold pyNext
    refine wpAny_bind (wpAny_attempt (wpAny_callSpecial?_slot (name := Str.ofString "__next__") hT F.slot_enumerate_next
      (wpAny_call_entry F.slot_enumerate_next hT F.entry_enumerate_next ?_ (F.args_enumerate_next_1 _))))
    show wpAny _ _ (field (.ref e) 2 >>= _) _ _ _
    refine wpAny_bind (wpAny_field he rfl (x := .ref it) rfl ?_)
    refine wpAny_bind (wpAny_nextOf_tuple_end (by first | exact I.ok.hd hc | (show X.A.handled = none; exact I.ok.hd hc)) hit (show s.heap.IsTuple a its.toArray from p) (by simp; omega) fun h' ex hx hcx => ?_)
    obtain ⟨o, ho, hcl⟩ := hcx
    refine wpAny_bind (wpAny_isInstance (T := "StopIteration") (b := true) ⟨o, ho, hcl⟩ isSubtype_stop ?_)
    exact wpAny_pure ⟨rfl, I.turned (t' := s.toks) (fun b o hb q => hx b o hb q) f0 f1 f3 f4 f5⟩
  self := fun A i s Q E st h => let ⟨⟨_, he⟩, _⟩ := st; wpAny_pyIter_enum he h
def iEnumT (K : PySem.W.Frag) (ta : TA) : TI := fun σ H R => ta σ H fun vs H1 => ∃ a xs, vs = [.ref a] ∧ SqT K H1 a xs ∧ R (IteT K a) H1
theorem pi_enumT {X : Cx} {e : Expr} {ta : TA} {p pos tpos : Pos} {elts : List Expr} {kk : Nat} (hg : Gl X "enumerate") (hm : X.mg "enumerate" = none) (ha : PA X [e] ta) (hs : starEach [e] X.env = [(false, eval e X.env)] := by rfl) :
    PI X (.Tuple elts kk tpos) (.Call (.Name "enumerate" p) [e] [] pos) (iEnumT X.K ta) := by
  refine ⟨fun pins s σ H R I h => ?_⟩
  refine Call_ (ld_blt I hg hm boot_enumerate (PyProof.Rows.callWith_type1 (thn (ha.run pos pins s σ H _ I h) fun us s1 ⟨vs, H1, I1, r1, q1⟩ => ?_) hs rfl))
  obtain ⟨a, xs, ex, hq, q⟩ := q1
  subst ex
  cases r1 with
  | cons r rr =>
    cases rr
    cases r
    obtain ⟨its, rv, p', hz⟩ := I1.tuple hq
    have hlt : a < s1.heap.objs.size := by obtain ⟨_, y, _⟩ := p'; exact Heap.lt_size y
    refine call_enumT p' fun h' he hit hsz hk => wpAny_pyIter_enum he ?_
    have I2 : Inv X pins σ H1 { s1 with heap := h' } := I1.kept (t' := s1.toks) hk
    refine ⟨s1.heap.objs.size + 1, [s1.heap.objs.size + 1, s1.heap.objs.size], _, _, H1, rfl, I2, turn_enumT a (s1.heap.objs.size + 1) s1.heap.objs.size, ⟨⟨.none, he⟩, hit, Nat.succ_ne_self _, Nat.ne_of_lt hlt, Nat.ne_of_gt (Nat.lt_succ_of_lt hlt)⟩, fun b hb => ?_, q⟩
    have e' : b = s1.heap.objs.size + 1 ∨ b = s1.heap.objs.size := by simpa using hb
    have hle : s1.heap.objs.size ≤ b := by
      rcases e' with z | z
      · rw [z]; exact Nat.le_add_right _ _
      · rw [z]; exact Nat.le_refl _
    exact I1.fpOk hle (I1.hok.fresh hle)
theorem walk_enumT {K : PySem.W.Frag} {a : Addr} {xs : List V} : Walk (IteT K a) xs.length (fun H => SqT K H a xs) (YPair (fun i => some (.int (i : Nat))) (fun i => xs[i]?)) := by
  refine ⟨fun i _ hi q => ⟨xs, xs[i], q, by simp [hi]⟩, fun _ q => ⟨xs, q, Nat.le_refl _⟩, fun i H v H' _ q y => ?_⟩
  obtain ⟨T, x, h1, h2, h3, h4⟩ := y
  exact ⟨T, .int (i : Nat), x, h1, h2, h3, rfl, h4 xs q⟩
theorem walk_zipT {K : PySem.W.Frag} {a b : Addr} {xs ys : List V} {n : Nat} (hn : n = min xs.length ys.length) : Walk (RZ.ItzT K a b) n (fun H => SqT K H a xs ∧ SqT K H b ys) (YPair (fun i => xs[i]?) (fun i => ys[i]?)) := by
  subst hn
  refine ⟨fun i _ hi q => ?_, fun _ q => ⟨xs, ys, q.1, q.2, by omega⟩, fun i H v H' _ q y => ?_⟩
  · have h1 : i < xs.length := by omega
    have h2 : i < ys.length := by omega
    exact ⟨xs, ys, xs[i], ys[i], q.1, q.2, by simp [h1], by simp [h2]⟩
  · obtain ⟨T, x, z, h1, h2, h3, h4, h5⟩ := y
    exact ⟨T, x, z, h1, h2, h3, h4 xs q.1, h5 ys q.2⟩
/-! ### pairs -/
def RPair {α β : Type} (R1 : Rel α) (R2 : Rel β) : Rel (α × β) := fun H d v => ∃ T x y, v = .ref T ∧ H T = some (.tup [x, y]) ∧ R1 H d.1 x ∧ R2 H d.2 y
theorem rt_pair {α β : Type} {R1 : Rel α} {R2 : Rel β} (h1 : RT1 R1) (h2 : RT1 R2) : RT1 (RPair R1 R2) := fun H H' d v s ⟨T, x, y, e, hT, a, b⟩ => ⟨T, x, y, e, s _ _ hT, h1 _ _ _ _ s a, h2 _ _ _ _ s b⟩
theorem rm_pair {α β : Type} {R1 : Rel α} {R2 : Rel β} (h1 : RM R1) (h2 : RM R2) : RM (RPair R1 R2) := fun H H' d v s ⟨T, x, y, e, hT, a, b⟩ => ⟨T, x, y, e, s _ _ hT, h1 _ _ _ _ s a, h2 _ _ _ _ s b⟩
def enm {δ : Type} (ds : List δ) : List (Nat × δ) := (List.range ds.length).zip ds
theorem enm_len {δ : Type} (ds : List δ) : (enm ds).length = ds.length := by unfold enm; rw [List.length_zip, List.length_range, Nat.min_self]
theorem enm_get {δ : Type} {ds : List δ} {i : Nat} {d : δ} (h : ds[i]? = some d) : (enm ds)[i]? = some (i, d) := by
  have hi : i < ds.length := by
    rcases Nat.lt_or_ge i ds.length with z | z
    · exact z
    · rw [List.getElem?_eq_none z] at h; cases h
  unfold enm
  rw [List.getElem?_zip_eq_some]
  exact ⟨List.getElem?_range hi, h⟩
theorem enm_mem {δ : Type} {ds : List δ} {d : Nat × δ} (h : d ∈ enm ds) : ds[d.1]? = some d.2 := by
  obtain ⟨i, hi⟩ := List.mem_iff_getElem?.mp h
  unfold enm at hi
  rw [List.getElem?_zip_eq_some] at hi
  obtain ⟨h1, h2⟩ := hi
  have hl : i < ds.length := by
    rcases Nat.lt_or_ge i ds.length with z | z
    · exact z
    · rw [List.getElem?_eq_none z] at h2; cases h2
  rw [List.getElem?_range hl] at h1
  have := Option.some.inj h1
  rw [← this]; exact h2
section
variable {δ ε : Type} {X : Cx} {e e2 : Expr} {elts : List Expr} {kk : Nat} {σ : L2.St} {H : Hp} {ds : List δ} {es : List ε} {R : Rel δ} {R2 : Rel ε} {pos p tpos : Pos}
theorem ypair_same {xs ys : Nat → Option V} {i : Nat} {H3 H' : Hp} {x : V} (h : YPair xs ys i H3 x H') : Same H3 H' := by
  obtain ⟨T, _, _, _, e, e2, _⟩ := h
  rw [e2]; exact same_new e
/-- for i, x in enumerate(a tuple) -/
theorem ci_enumT (hm : X.mg "enumerate" = none) (h : CP X e σ H (fun v H1 => IsTup R H1 ds v)) (rt : RT1 R) (hg : Gl X "enumerate" := by rfl) (hs : starEach [e] X.env = [(false, eval e X.env)] := by rfl) (hs1 : starEach (e :: []) X.env = (false, eval e X.env) :: starEach [] X.env := by rfl) :
    CI X (.Tuple elts kk tpos) (.Call (.Name "enumerate" p) [e] [] pos) σ H TS (enm ds) (RPair RNat R) := fun H1 s1 Rc k =>
  ⟨_, pi_enumT hg hm (pa_cons re_pe pa_nil hs1) hs, h H1 s1 _ fun v H2 s2 ⟨a, xs, e1, h1, pr⟩ => ⟨a, xs, by rw [e1], SqT.of h1, k _ H2 s2 (by
    rw [enm_len, paired_len pr]
    exact walk_enumT.mono (fun H' g => SqT.of (g _ _ h1)) fun i H3 x H' hi g y => by
      refine ⟨ypair_same y, ?_⟩
      obtain ⟨T, x1, x2, e1, e2, e3, e4, e5⟩ := y
      subst e3
      obtain ⟨d, q1, q2⟩ := paired_getR pr e5
      have hx1 : x1 = .int (i : Int) := (Option.some.inj e4).symm
      exact ⟨(i, d), enm_get q1, T, x1, x2, e1, upd_same, hx1, rt _ _ _ _ (TS.trans g (Pz.Same.ts (same_new e2))) q2⟩)⟩⟩
/-- for i, x in enumerate(a list) -/
theorem ci_enumL (hm : X.mg "enumerate" = none) (h : CP X e σ H (fun v H1 => IsLst R H1 ds v)) (rm : RM R) (hg : Gl X "enumerate" := by rfl) (hs : starEach [e] X.env = [(false, eval e X.env)] := by rfl) (hs1 : starEach (e :: []) X.env = (false, eval e X.env) :: starEach [] X.env := by rfl) :
    CI X (.Tuple elts kk tpos) (.Call (.Name "enumerate" p) [e] [] pos) σ H Same (enm ds) (RPair RNat R) := fun H1 s1 Rc k =>
  ⟨_, pi_enum hg hm (pa_cons re_pe pa_nil hs1) hs, h H1 s1 _ fun v H2 s2 ⟨a, xs, e1, h1, pr⟩ => ⟨a, xs, by rw [e1], SqL.of h1, k _ H2 s2 (by
    rw [enm_len, paired_len pr]
    exact walk_enum.mono (fun H' g => SqL.of (g _ _ h1)) fun i H3 x H' hi g y => by
      refine ⟨ypair_same y, ?_⟩
      obtain ⟨T, x1, x2, e1, e2, e3, e4, e5⟩ := y
      subst e3
      obtain ⟨d, q1, q2⟩ := paired_getR pr e5
      have hx1 : x1 = .int (i : Int) := (Option.some.inj e4).symm
      exact ⟨(i, d), enm_get q1, T, x1, x2, e1, upd_same, hx1, rm _ _ _ _ (Same.trans g (same_new e2)) q2⟩)⟩⟩
theorem zip_get {i : Nat} {d : δ} {f : ε} (h : ds[i]? = some d) (h2 : es[i]? = some f) : (ds.zip es)[i]? = some (d, f) := by
  rw [List.getElem?_zip_eq_some]; exact ⟨h, h2⟩
/-- for x, y in zip(two tuples) -/
theorem ci_zipT (hm : X.mg "zip" = none) (h : CP X e σ H (fun v H1 => IsTup R H1 ds v)) (h2 : CP X e2 σ H (fun v H1 => IsTup R2 H1 es v)) (rt : RT1 R) (rt2 : RT1 R2) (hg : Gl X "zip" := by rfl)
    (hs : starEach [e, e2] X.env = (false, eval e X.env) :: starEach [e2] X.env := by rfl) (hpl : (backTo pos (starEach [e2] X.env)).any (·.1) = false := by rfl) (hs0 : starEach (e2 :: []) X.env = (false, eval e2 X.env) :: starEach [] X.env := by rfl) :
    CI X (.Tuple elts kk tpos) (.Call (.Name "zip" p) [e, e2] [] pos) σ H TS (ds.zip es) (RPair R R2) := fun H1 s1 Rc k =>
  ⟨_, RZ.pi_zipA hg hm (pa_cons re_pe (pa_cons re_pe pa_nil hs0) hs) hs hpl, h H1 s1 _ fun v H2 s2 ⟨a, xs, e1, h1, pr⟩ => h2 H2 (s1.trans s2) _ fun u H3 s3 ⟨b, ys, f1, g1, pr2⟩ =>
    ⟨a, b, xs, ys, by rw [e1, f1], Or.inr ⟨SqT.of (s3 _ _ h1), SqT.of g1, k _ H3 (s2.trans s3) (by
    have pr' := paired_rt rt (Pz.Same.ts s3) pr
    refine (walk_zipT (by rw [List.length_zip, paired_len pr, paired_len pr2])).mono (fun H' g => ⟨SqT.of (g _ _ (s3 _ _ h1)), SqT.of (g _ _ g1)⟩) fun i H4 x H' hi g y => ?_
    refine ⟨ypair_same y, ?_⟩
    obtain ⟨T, x1, x2, e1, e2, e3, e4, e5⟩ := y
    subst e3
    obtain ⟨d, q1, q2⟩ := paired_getR pr' e4
    obtain ⟨d', q1', q2'⟩ := paired_getR pr2 e5
    have gs := TS.trans g (Pz.Same.ts (same_new (o := .tup [x1, x2]) e2))
    exact ⟨(d, d'), zip_get q1 q1', T, x1, x2, e1, upd_same, rt _ _ _ _ gs q2, rt2 _ _ _ _ gs q2'⟩)⟩⟩⟩
end
end Pz
end
section
set_option Elab.async false
set_option linter.all false
set_option maxRecDepth 100000
set_option maxHeartbeats 4000000
namespace Pz
open PySem PySem.Spec PyProof.Rows L2
open PySem.W (KeepsBut keyH_end copyHeap copyHeap_old copyHeap_at sortingHeap sortingHeap_old sorted_of_sort SortsAt AllAlike Sortable dataKind dataLe dataLt sortVals)
open PySem.W
open PySem.Calls
/-- what the key function promises: (len(lot), lot) -/
def aSized (l : List Nat) (vs : List V) (H : Hp) : Prop := ∃ v, vs = [v] ∧ IsL H l v ∧ l.length ≤ 1000
def rSized (l : List Nat) (v : V) (H : Hp) : Prop := ∃ t u, v = .ref t ∧ H t = some (.tup [.int (l.length : Int), u]) ∧ IsL H l u
def keyD (l : List Nat) : PyData := .tuple [.int (l.length : Int), .tuple (l.map fun n : Nat => PyData.int (n : Int))]
theorem ints_all : ∀ l : List Nat, (l.map fun n : Nat => PyData.int (n : Int)) = (l.map fun n : Nat => (n : Int)).map PyData.int := fun l => by rw [List.map_map]; rfl
theorem alike_key (l m : List Nat) : alike (keyD l) (keyD m) = true := by
  unfold keyD
  simp only [alike, alikeAll, Bool.true_and, Bool.and_true]
  rw [ints_all, ints_all]
  exact PySem.W.alike_ints _ _
theorem dpAll_nv {K : PySem.W.Frag} {H : Hp} : ∀ l : List Nat, DpAll K H (nv l) (l.map fun n : Nat => PyData.int (n : Int))
  | [] => .nil
  | x :: l => .cons (.int _) (dpAll_nv l)
theorem dp_key {K : PySem.W.Frag} {H : Hp} {l : List Nat} {v : V} (h : rSized l v H) : Dp K H v (keyD l) := by
  obtain ⟨t, u, rfl, ht, p, rfl, hp⟩ := h
  exact .tup (SqT.of ht) (.cons (.int _) (.cons (.tup (SqT.of hp) (dpAll_nv l)) .nil))
theorem rm_sized : RM (fun H l v => rSized l v H) := fun H H' l v s ⟨t, u, e, ht, hu⟩ => ⟨t, u, e, s _ _ ht, hu.m s⟩
theorem rSized.m {H H' : Hp} {l : List Nat} {v : V} (h : rSized l v H) (s : Same H H') : rSized l v H' := rm_sized _ _ _ _ s h
theorem depth_key (l : List Nat) : (keyD l).depth ≤ 10 := by
  unfold keyD
  rw [ints_all]
  simp only [PyData.depth, PyData.depthAll, PySem.W.depth_ints]
  decide
/-- data by values -/
theorem each_keys {X : Cx} {pins : List (Addr × Obj)} {σ : L2.St} {H : Hp} {s : Shared} (I : Inv X pins σ H s) : ∀ {ls : List (List Nat)} {vks : List V} {us : List Value}, Paired (fun l v => rSized l v H) ls vks → Vals vks us →
    EachIs (fun v d => ∃ as, Reads s.heap v d as) us (ls.map keyD) := by
  intro ls vks us p
  induction p generalizing us with
  | nil => intro r; cases r; exact .nil
  | cons h t ih =>
    intro r
    cases r with
    | cons r rr => exact .cons (Dp.reads I _ _ _ (dp_key h) r) (ih rr)
section
variable {X : Cx} {pins : List (Addr × Obj)} {σ : L2.St} {H : Hp} {s : Shared}
theorem Inv.repin {k : Addr} {o o' : Obj} {h' : Heap} {t' : Nat} (I : Inv X ((k, o) :: pins) σ H s) (hk : ∀ b u, b ≠ k → s.heap.get? b = some u → h'.get? b = some u) (e : h'.get? k = some o') (hd : ∀ v, o'.data ≠ .cell v)
    (hx : k ∈ X.ex ∨ X.s_0.heap.objs.size ≤ k) (hc : ∀ x c, X.env.cells.lookup x = some c → c ≠ k) (hp : ∀ p ∈ X.pn ++ pins, p.1 ≠ k) : Inv X ((k, o') :: pins) σ H { s with heap := h', toks := t' } := by
  obtain ⟨p1, p2, p3, p4, p5⟩ := I.pin (k, o) (List.mem_append_right _ (.head _))
  have I0 : Inv X pins σ H s := I.pins_of fun p hp => I.pin p (List.mem_append_right _ (.tail _ hp))
  have I1 : Inv X pins σ H { s with heap := h', toks := t' } := I0.turned (fun b o hb q => hk b o hb q) p2 p3 hx hc hp
  exact I1.pins_of fun p hp => by
    rcases List.mem_cons.mp hp with rfl | hp
    · exact ⟨e, p2, p3, p4, hd⟩
    · exact I1.pin p (List.mem_append_right _ hp)
theorem vals_snoc : ∀ {xs : List V} {us : List Value} {v : V} {u : Value}, Vals xs us → RelV v u → Vals (xs ++ [v]) (us ++ [u]) := fun r h => r.append (.cons h .nil)
/-- the relation of values to lots -/
def VL (H : Hp) (u : Value) (l : List Nat) : Prop := ∃ p, u = .ref p ∧ H p = some (.tup (nv l))
theorem each_vl {H : Hp} : ∀ {ls : List (List Nat)} {xs : List V} {us : List Value}, Paired (IsL H) ls xs → Vals xs us → EachIs (VL H) us ls := by
  intro ls xs us p
  induction p generalizing us with
  | nil => intro r; cases r; exact .nil
  | cons h t ih =>
    intro r
    cases r with
    | cons r rr =>
      obtain ⟨p, rfl, hp⟩ := h
      cases r
      exact .cons ⟨p, rfl, hp⟩ (ih rr)
theorem vl_each {H : Hp} : ∀ {ls : List (List Nat)} {us : List Value}, EachIs (VL H) us ls → ∃ xs, Paired (IsL H) ls xs ∧ Vals xs us := by
  intro ls us p
  induction p with
  | nil => exact ⟨[], .nil, .nil⟩
  | cons h t ih =>
    obtain ⟨p, rfl, hp⟩ := h
    obtain ⟨xs, h1, h2⟩ := ih
    exact ⟨.ref p :: xs, .cons ⟨p, rfl, hp⟩ h1, .cons rfl h2⟩
/-- sorted(xs, key=f) of lots -/
theorem sortKey_run {k : Nat} {f a : Addr} {fd : FuncData} {xs : List V} {ls : List (List Nat)} {Q : VK} (F : FnOk X.prog X.w X.K X.mg X.base CX0 k f fd ["lot"] (SpI aSized rSized)) (hb : Binds X.K fd ["lot"] []) (hr : Room (k + 2) X.A) (hcalm : X.calm = true) (I : Inv X pins σ H s)
    (hH : H a = some (.lst xs)) (pr : Paired (IsL H) ls xs) (hl : ∀ l ∈ ls, l.length ≤ 1000) (hz : ls.length ≤ 10000)
    (q : ∀ p H' out, Same H H' → H p = none → Paired (IsL H') (ls.mergeSort (dataLe false keyD)) out → H' p = some (.lst out) → Q (.ref p) H') :
    wpAny (model X.prog X.w) X.A (call (.builtin "sorted") [.ref a] [(Str.ofString "key", .ref f)]) (EP X pins σ Q) X.xe s := by
  obtain ⟨z, its, n, rv, hlen, e⟩ := I.lstM hH
  have hsl := sizeLine_eq
  have hls : ls.length = its.length := (paired_len pr).trans hlen
  have hL : its.length ≤ sizeLine := by omega
  have hsub : Room k X.A.in1.in1 := hr.in1.in1
  refine sorted_of_sort (vs := its) ⟨_, e, rfl, n, rfl⟩ hL (PyProof.Rows.ksk_s1 _ _) (fun _ => PyProof.Rows.ksk_l1 _ _) fun E' => ?_
  rw [PyProof.Rows.ksk_t1]
  have hat := copyHeap_at s.heap its
  have hsz : (copyHeap s.heap its).objs.size = s.heap.objs.size + 2 := by
    show (((s.heap.push (seqObj "list" #[] 0)).update s.heap.objs.size (Obj.mapSeq (· ++ its.toArray))).push (seqObj "list" its.toArray 0)).objs.size = _
    rw [Heap.size_push, Heap.size_update, Heap.size_push]
  generalize hch : copyHeap s.heap its = ch at hat hsz
  have hcp : ∀ b o, s.heap.get? b = some o → ch.get? b = some o := fun b o q => by rw [← hch]; exact copyHeap_old q
  obtain ⟨e1, ho1⟩ : ∃ e1, (ch.update (s.heap.objs.size + 1) (Obj.mapSeq fun _ => (#[] : Array Value))).get? (s.heap.objs.size + 1) = some (seqObj "list" #[] e1) := ⟨_, get?_update_seq hat fun _ => #[]⟩
  have hkS : ((ch.update (s.heap.objs.size + 1) (Obj.mapSeq fun _ => (#[] : Array Value))).push (seqObj "tuple" its.toArray 0)).objs.size = s.heap.objs.size + 3 := by rw [size_push', Heap.size_update, hsz]
  unfold ksk_tree
  refine wpAny_bind (listItems_at hat rfl ?_)
  refine wpAny_bind (listUpdate_at hat rfl ?_ (by rw [List.size_toArray]; exact hL) (Nat.zero_le _))
  refine wpAny_bind (seqEpoch_at ho1 rfl ?_)
  refine wpAny_bind (wpAny_newTuple ?_ (by show its.length ≤ _; exact hL))
  refine wpAny_bind (wpAny_newList ?_ (Nat.zero_le _))
  refine wpAny_holding ?_
  rw [hkS]
  have hne : s.heap.objs.size + 3 ≠ s.heap.objs.size + 1 := by omega
  have kp : ∀ b o, s.heap.get? b = some o → (sortingHeap ch (s.heap.objs.size + 1) its).get? b = some o := fun b o q => sortingHeap_old (Nat.ne_of_lt (Nat.lt_succ_of_lt (Heap.lt_size q))) (hcp b o q)
  have na : (sortingHeap ch (s.heap.objs.size + 1) its).get? (s.heap.objs.size + 1) = some (seqObj "list" #[] e1) := Heap.get?_push_of_some _ (Heap.get?_push_of_some _ ho1)
  have nk : (sortingHeap ch (s.heap.objs.size + 1) its).get? (s.heap.objs.size + 3) = some (seqObj "list" #[] 0) := by rw [← hkS]; exact Heap.get?_push_size _ rfl
  show wpAny _ _ (ksk_rest (s.heap.objs.size + 1) (.ref f) false its.toArray e1 (.ref (s.heap.objs.size + 3))) _ _ { s with heap := sortingHeap ch (s.heap.objs.size + 1) its }
  generalize sortingHeap ch (s.heap.objs.size + 1) its = h2 at kp na nk
  -- the invariant
  have I0 : Inv X pins σ H { s with heap := h2 } := I.kept (t' := s.toks) kp
  have hn1 : H (s.heap.objs.size + 1) = none := I.hok.fresh (Nat.le_succ _)
  have hn3 : H (s.heap.objs.size + 3) = none := I.hok.fresh (by omega)
  have hfz : ∀ o' u', X.H_0 (s.heap.objs.size + 1) ≠ some (.frz o' u') := fun o' u' e => by
    have q := I.base.frzs _ o' u' e
    rw [hn1] at q; cases q
  have fp1 : FpOk X pins H (s.heap.objs.size + 1) := I.fpOk (Nat.le_succ _) hn1
  have fp3 : FpOk X pins H (s.heap.objs.size + 3) := I.fpOk (by omega) hn3
  have I1 : Inv X pins σ (upd H (s.heap.objs.size + 1) (.frz (seqObj "list" #[] e1) (.lst []))) { s with heap := h2 } :=
    I.laid (t' := s.toks) kp (Nat.le_succ _) ⟨na, Nat.zero_le _, [], _, .nil, na⟩
  have I2 : Inv X ((s.heap.objs.size + 3, seqObj "list" #[] 0) :: pins) σ (upd H (s.heap.objs.size + 1) (.frz (seqObj "list" #[] e1) (.lst []))) { s with heap := h2 } :=
    I1.pins_of fun p hp => by
      rcases List.mem_cons.mp hp with rfl | hp
      · exact ⟨nk, by rw [upd_ne hne]; exact hn3, fp3.2.1, fp3.2.2.1, fun v q => nomatch q⟩
      · exact I1.pin p (List.mem_append_right _ hp)
  have sH : Same H (upd H (s.heap.objs.size + 1) (.frz (seqObj "list" #[] e1) (.lst []))) := same_new hn1
  unfold ksk_rest
  refine wpAny_bind (wpAny_rule ?_)
  first
    | rw [List.forIn_toArray]
    | (rw [← Array.forIn_toList]; simp only [List.toList_toArray])
    | rw [← Array.forIn_toList]
  refine wpAny_bind (ksk_fold (fun i s' => ∃ Hi kA e vks, Inv X ((s.heap.objs.size + 3, seqObj "list" kA e) :: pins) σ Hi s' ∧ Same (upd H (s.heap.objs.size + 1) (.frz (seqObj "list" #[] e1) (.lst []))) Hi ∧ Vals vks kA.toList ∧ Paired (fun l v => rSized l v Hi) (ls.take i) vks) its 0 _
    ⟨_, #[], 0, [], I2, Same.refl _, .nil, by rw [List.take_zero]; exact .nil⟩ ?step ?done)
  case step =>
    rintro j x s' hx ⟨Hi, kA, ek, vks, Ii, sHi, rvk, prk⟩
    simp only [Nat.zero_add] at prk ⊢
    have hj : j < its.length := (List.getElem?_eq_some_iff.mp hx).1
    obtain ⟨l, hlj⟩ : ∃ l, ls[j]? = some l := ⟨_, List.getElem?_eq_getElem (by omega)⟩
    obtain ⟨y, hy, hyl⟩ := paired_getL pr hlj
    obtain ⟨x', hx', rx⟩ := rv.get hy
    have ex : x' = x := by rw [hx] at hx'; exact (Option.some.inj hx').symm
    subst ex
    have hzk : kA.size ≤ its.length := by
      have h1 : vks.length = kA.toList.length := rvk.length
      have h2 := paired_len prk
      rw [List.length_take] at h2
      have h3 : kA.toList.length = kA.size := Array.length_toList
      omega
    have sAll : Same H Hi := sH.trans sHi
    have e0 : Env0 X.prog X.w X.K X.mg X.base X.A.in1.in1 X.stack s' Hi := by
      have e := Ii.env0
      exact ⟨by exact e.frames, e.mod, e.bs, e.bsz, e.funs, e.frf, e.hok, e.bare⟩
    have r2 : Vals [y] [x'] := .cons rx .nil
    refine wpAny_bind (wpAny_attempt (wpAny_call (codeAny_mono (F.run X.A.in1.in1 X.stack s' Hi ⟨[x'], []⟩ [x'] [y] (fun v H' => Same Hi H' ∧ rSized l v H') E0 hsub e0 (by
      have := hb s' [x'] Ii.kIn (by rfl)
      simpa using this) r2 ⟨l, ⟨y, rfl, hyl.m sAll, hl l (List.mem_of_getElem? hlj)⟩, fun v H' s1 r => ⟨s1, r⟩⟩) fun r s'' hq => ?_)))
    cases r with
    | error er => exact hq.elim
    | ok fl =>
      cases fl with
      | next => exact False.elim hq
      | brk => exact False.elim hq
      | cont => exact False.elim hq
      | ret u =>
        obtain ⟨v, H', I3, ru, s3, hkv⟩ := Ii.after hq
        try dsimp only
        obtain ⟨p1, p2, p3, p4, p5⟩ := I3.pin (s.heap.objs.size + 3, seqObj "list" kA ek) (List.mem_append_right _ (.head _))
        have sb := Heap.SameBut.update s''.heap (s.heap.objs.size + 3) (Obj.mapSeq (·.push u))
        obtain ⟨c2, hc2⟩ : ∃ c2, (s''.heap.update (s.heap.objs.size + 3) (Obj.mapSeq (·.push u))).get? (s.heap.objs.size + 3) = some (seqObj "list" (kA.push u) c2) := ⟨_, get?_update_seq p1 (·.push u)⟩
        refine wpAny_bind (listUpdate_at p1 rfl ?_ (by omega) (by rw [Array.size_push]; omega))
        refine wpAny_pure ⟨rfl, H', kA.push u, c2, vks ++ [v], Inv.repin (t' := s''.toks) I3 (fun b o hb q => (sb.2 b hb).trans q) hc2 (fun v q => nomatch q) fp3.2.2.2.1 fp3.2.2.2.2.1 fp3.2.2.2.2.2, sHi.trans s3, ?_, ?_⟩
        · rw [Array.toList_push]; exact vals_snoc rvk ru
        · rw [List.take_add_one, hlj]
          exact paired_snoc (paired_rm rm_sized s3 prk) hkv
  case done =>
    rintro s' ⟨Hi, kA, ek, vks, Ii, sHi, rvk, prk⟩
    have prk' : Paired (fun l v => rSized l v Hi) ls vks := by
      rw [List.take_of_length_le (by omega)] at prk
      exact prk
    have hsz : kA.size = its.length := by
      have h1 : vks.length = kA.toList.length := rvk.length
      have h2 := paired_len prk'
      have h3 : kA.toList.length = kA.size := Array.length_toList
      omega
    obtain ⟨p1, p2, p3, p4, p5⟩ := Ii.pin (s.heap.objs.size + 3, seqObj "list" kA ek) (List.mem_append_right _ (.head _))
    have hfr : Hi (s.heap.objs.size + 1) = some (.frz (seqObj "list" #[] e1) (.lst [])) := sHi _ _ upd_same
    have na' : s'.heap.get? (s.heap.objs.size + 1) = some (seqObj "list" #[] e1) := (Ii.hok _ _ hfr).1
    have ek' := each_keys Ii prk' rvk
    try dsimp only
    refine wpAny_bind (listItems_at p1 rfl ?_)
    have hS : SortsAt X.prog X.w X.A.in1.in1 s' (dataKind s'.heap (ls.map keyD)) kA.toList :=
      SortsAt.data ek' (AllAlike.of alike_key) (Sortable.tuples fun l => ⟨_, _, rfl⟩) (fun d hd => by
        obtain ⟨l, _, rfl⟩ := List.mem_map.mp hd
        have := depth_key l
        have := hsub.un
        omega)
    refine keyH_end (κ := dataKind s'.heap (ls.map keyD)) (h₁ := hideAll s'.heap [s.heap.objs.size + 3]) (fun b o _ q => of_hideAll _ q) (hideAll_none _ (.head _)) p1 na' hne hS hsz hL fun h3 tk3 c k3 n3 => ⟨rfl, ?_⟩
    have k3' : ∀ b o, b ≠ s.heap.objs.size + 1 → b ≠ s.heap.objs.size + 3 → s'.heap.get? b = some o → h3.get? b = some o := fun b o h1 h2 q => k3 b o h1 (hideAll_get _ q (by simp [h2]))
    have I4 : Inv X pins σ Hi s' := Ii.pins_of fun p hp => Ii.pin p (List.mem_append_right _ (.tail _ hp))
    have I5 := I4.unlock hfr hfz
    have b3 := Heap.SameBut.update h3 (s.heap.objs.size + 1) (fun _ => seqObj "list" #[] e1)
    have hmid : (h3.update (s.heap.objs.size + 1) (fun _ => seqObj "list" #[] e1)).get? (s.heap.objs.size + 1) = some (seqObj "list" #[] e1) := Heap.get?_update_self _ n3 rfl
    have I6 : Inv X pins σ (upd Hi (s.heap.objs.size + 1) (.lst [])) { s' with heap := h3.update (s.heap.objs.size + 1) (fun _ => seqObj "list" #[] e1), toks := tk3 } :=
      I5.turned (t' := tk3) (it := s.heap.objs.size + 3) (fun b o hb q => by
        by_cases hb1 : b = s.heap.objs.size + 1
        · subst hb1
          rw [na'] at q
          rw [← q]
          exact hmid
        · exact (b3.2 b hb1).trans (k3' b o hb1 hb q)) (by rw [upd_ne hne]; exact p2) p3 fp3.2.2.2.1 fp3.2.2.2.2.1 fp3.2.2.2.2.2
    have sAll : Same H Hi := sH.trans sHi
    have hev : EachIs (VL H) (sortVals (dataKind s'.heap (ls.map keyD)) false kA.toList its) (ls.mergeSort (dataLe false keyD)) :=
      keyedOut_each keyD ⟨s'.heap, kA.toList, AllAlike.of alike_key, rfl, ek'⟩ (each_vl pr rv)
    obtain ⟨out, ho1', ho2'⟩ := vl_each hev
    have hso : out.length ≤ sizeLine := by
      have := paired_len ho1'
      rw [List.length_mergeSort] at this
      omega
    have I7 : Inv X pins σ (upd (upd Hi (s.heap.objs.size + 1) (.lst [])) (s.heap.objs.size + 1) (.lst out)) { s' with heap := h3, toks := tk3 } :=
      I6.write (x := s.heap.objs.size + 1) (e := s.heap.objs.size + 1) (t' := tk3) (h' := h3) (by rw [upd_same]; exact trivial) (.inl rfl) (fun b u hb q => (b3.2 b hb).symm.trans q) ⟨_, n3⟩ ⟨hso, _, _, ho2', n3⟩
    have sEnd : Same H (upd (upd Hi (s.heap.objs.size + 1) (.lst [])) (s.heap.objs.size + 1) (.lst out)) := same_mut (same_mut sAll hn1) hn1
    exact ⟨.ref _, _, I7, rfl, q _ _ out sEnd hn1 (paired_rm rt_l.m sEnd ho1') upd_same⟩
end
end Pz
end
section
set_option Elab.async false
set_option linter.all false
set_option maxRecDepth 100000
set_option maxHeartbeats 4000000
namespace Pz
open PySem PySem.Spec PyProof.Rows L2
open PySem.W (SortsAt AllAlike Sortable dataKind dataLe dataLt sortVals)
open PySem.W
open PySem.Calls
/-! ### sorted(xs, key=f) -/
theorem sortKey_ord (ls : List (List Nat)) : (ls.mergeSort (dataLe false keyD)).Pairwise fun a b => a.length ≤ b.length := by
  refine (PySem.W.sort_pairwise (PySem.W.sortLe_total _ _ _) ls).imp fun {a b} h => ?_
  have h : dataLe false keyD a b = true := h
  rw [dataLe_eq] at h
  have h : (!dataLt (keyD b) (keyD a)) = true := h
  unfold keyD at h
  rw [dataLt_pair (by simp [alike]) (by simp only [alike]; rw [ints_all, ints_all]; exact PySem.W.alike_ints _ _), PySem.W.dataLt_int] at h
  by_cases hlt : b.length < a.length
  · exfalso
    have e : PyData.eqv (.int (b.length : Int)) (.int (a.length : Int)) = false := by
      simp only [PyData.eqv, beq_eq_false_iff_ne]
      omega
    rw [e] at h
    simp only [Bool.false_eq_true, if_false, Bool.not_eq_true', decide_eq_false_iff_not] at h
    omega
  · omega
section
variable {X : Cx} {e : Expr} {σ : L2.St} {H : Hp} {p q pos kpos : Pos}
def rSortKey (f : Addr) : List V → List V → Hp → VK → Prop := fun vs zs H Q => ∃ (a : Addr) (xs : List V) (ls : List (List Nat)), vs = [V.ref a] ∧ zs = [V.ref f] ∧ H a = some (.lst xs) ∧ Paired (IsL H) ls xs ∧ (∀ l ∈ ls, l.length ≤ 1000) ∧ ls.length ≤ 10000 ∧
  ∀ p H' out, Same H H' → H p = none → Paired (IsL H') (ls.mergeSort (dataLe false keyD)) out → H' p = some (.lst out) → Q (.ref p) H'
theorem cr_sortKey {k : Nat} {f : Addr} {fd : FuncData} (F : FnOk X.prog X.w X.K X.mg X.base CX0 k f fd ["lot"] (SpI aSized rSized)) (hb : Binds X.K fd ["lot"] []) (hr : Room (k + 2) X.A) (hcalm : X.calm = true) :
    CallRK X (.builtin "sorted") [Str.ofString "key"] (rSortKey f) := by
  intro pins s σ H vs zs us ws Q I r rz h
  obtain ⟨a, xs, ls, rfl, rfl, hH, pr, hl, hz, q⟩ := h
  obtain rfl := Vals.ref1 r
  obtain ⟨w1, rfl, e1⟩ := vals1 rz
  obtain rfl : w1 = Value.ref f := e1
  exact sortKey_run F hb hr hcalm I hH pr hl hz q
theorem cp_sortKey {k : Nat} {x : Str} {ls : List (List Nat)} (G : Pm X.prog X.w X.K X.mg X.base x k ["lot"] (SpI aSized rSized)) (hr : Room (k + 2) X.A) (hm : X.mg "sorted" = none) (he : CP X e σ H (fun v H1 => IsLst IsL H1 ls v)) (hl : ∀ l ∈ ls, l.length ≤ 1000) (hz : ls.length ≤ 10000)
    (hcalm : X.calm = true := by rfl) (hg : Gl X "sorted" := by rfl) (hgx : Gl X x := by rfl) (hs : Sg X e := by rfl) (hdb : (x == ("__debug__" : Str)) = false := by decide)
    (h1 : backTo pos (starEach [e] X.env) = (false, eval e X.env) :: backTo pos (starEach [] X.env) := by rfl) (hpl : (backTo pos (starEach [e] X.env)).any (·.1) = false := by rfl)
    (hall : (backToKw pos (keywordEach [⟨some "key", .Name x q, kpos⟩] X.env)).all (·.1.isSome) = true := by rfl) (hnone : (backToKw pos (keywordEach [⟨some "key", .Name x q, kpos⟩] X.env)).any (·.1.isNone) = false := by rfl) (hks : (backToKw pos (keywordEach [⟨some "key", .Name x q, kpos⟩] X.env)).filterMap (·.1) = [Str.ofString "key"] := by rfl) :
    CP X (.Call (.Name "sorted" p) [e] [⟨some "key", .Name x q, kpos⟩] pos) σ H (NewL IsL H (ls.mergeSort (dataLe false keyD))) := fun H0 s0 Q k' => by
  obtain ⟨f, fd, g1, g2, g3, g4⟩ := G
  refine ⟨_, pe_callBK (cr_sortKey g4 g3 hr hcalm) hg hm (by decide +kernel) (pa_cons re_pe pa_nil hs) (pk_cons re_pe pk_nil) (by decide) (by decide) h1 hpl hall hnone hks, ?_⟩
  refine he H0 s0 _ fun v H1 s1 ⟨a, xs, ev, ha, pr⟩ => ?_
  refine (cv_glob (v := .ref f) hgx g1 rfl hdb : CV X (.Name x q) σ H1 (.ref f)) H1 (Same.refl _) _ fun u H2 s2 eu => ?_
  subst ev eu
  refine ⟨a, xs, ls, rfl, rfl, s2 _ _ ha, paired_rm rt_l.m s2 pr, hl, hz, fun p' H' out sH hp po ho => k' _ H' ((s1.trans s2).trans sH) ⟨p', out, rfl, ((s0.trans s1).trans s2).free hp, ho, po⟩⟩
end
/-! ### sorted(a dict of pairs of ints) -/
abbrev NN := Nat × Nat
def RNN : Rel NN := RPair RNat RNat
theorem rt_nn : RT1 RNN := rt_pair rt_nat rt_nat
def ky (k : NN) : List L2.Key := [.inl (k.1 : Int), .inl (k.2 : Int)]
def encP (k : NN) : PyData := .tuple [.int (k.1 : Int), .int (k.2 : Int)]
def leP (p q : NN) : Bool := decide ((p.1 : Int) < q.1 ∨ ((p.1 : Int) = q.1 ∧ (p.2 : Int) ≤ q.2))
theorem encP_le : dataLe false encP = leP := dataLe_ii (fun k : NN => (k.1 : Int)) (fun k : NN => (k.2 : Int))
theorem leP_ord (ks : List NN) : (ks.mergeSort leP).Pairwise fun p q => p.1 < q.1 ∨ (p.1 = q.1 ∧ p.2 ≤ q.2) := by
  refine (List.pairwise_mergeSort (le := leP) (fun a b c h1 h2 => ?_) (fun a b => ?_) ks).imp fun {a b} h => ?_
  · unfold leP at *
    simp only [decide_eq_true_eq] at *
    omega
  · unfold leP
    simp only [Bool.or_eq_true, decide_eq_true_eq]
    omega
  · unfold leP at h
    simp only [decide_eq_true_eq] at h
    omega
section
variable {prog : Program} {w : World} {A : Around} {E : Value → Shared → Prop} {s : Shared} {T : String} {r d : Addr} {n : Nat} {P : Nat → Value → Prop} {OK : Heap → Prop}
theorem collect_more {R : List Value → Shared → Prop} (K : KdlSrc prog w T r d n P OK) (hh : A.handled = none) (hok : OK s.heap) (hn : n ≤ sizeLine)
    (h : ∀ (h' : Heap) (tk : Nat) (acc : Array Value), (∀ b o, s.heap.get? b = some o → h'.get? b = some o) → s.heap.objs.size < h'.objs.size → ItemsOf P acc n → R acc.toList { s with heap := h', toks := tk }) :
    wpAny (model prog w) A (collect (.ref r)) R E s := by
  have hlt := K.there _ hok
  unfold collect
  refine wpAny_bind (wpAny_runValue (codeAny_builtin entry_proto_collect' ?_))
  rw [Around.under_plainId PySem.F.plain_proto_collect _]
  show wpAny _ A.in1 (newList [] >>= fun l => again (.builtin "list.__iadd__" ⟨[l, .ref r], []⟩)) _ _ s
  refine wpAny_bind (wpAny_newObj_type ?_)
  refine wpAny_pure ⟨plainId_quiet PySem.F.plain_list_iadd _, codeAny_builtin entry_list_iadd' ?_⟩
  rw [Around.under_plainId PySem.F.plain_list_iadd _]
  have hS₁ : (s.heap.push { cls := .type "list", data := .seq ([] : List Value).toArray }).get? s.heap.objs.size = some { cls := .type "list", data := .seq #[] } := Heap.get?_push_size _ rfl
  show wpAny _ A.in1 (Builtin.List.listExtendWith (.ref s.heap.objs.size) (.ref r) (.ref s.heap.objs.size)) _ _ _
  have key := kdl_extend (A := A) (s := { s with heap := s.heap.push { cls := .type "list", data := .seq ([] : List Value).toArray } })
    (R := fun (q : Result) (s' : Shared) => ∃ (h' : Heap) (tk : Nat) (acc' : Array Value) (c' : Nat), q = .ok (.ret (.ref s.heap.objs.size)) ∧ s' = { s with heap := h', toks := tk } ∧
      (∀ b o, s.heap.get? b = some o → h'.get? b = some o) ∧ h'.get? s.heap.objs.size = some { cls := .type "list", dict := none, data := .seq acc' c', slots := #[] } ∧ ItemsOf P acc' n)
    K hh (K.keep _ _ hok fun b _ o e => Heap.get?_push_of_some _ e) s.heap.objs.size (Nat.ne_of_gt hlt.1) (Nat.ne_of_gt hlt.2) (.ref s.heap.objs.size) 0 hS₁
    (fun h' tk acc' c' hk hS' hacc => ⟨h', tk, acc', c', rfl, rfl, fun b o e => hk b o (Nat.ne_of_lt (Heap.lt_size e)) (Heap.get?_push_of_some _ e), hS', hacc⟩) hn
  refine wpAny_mono key (fun fin s' x => ?_) fun e s' x => ?_
  · cases fin with
    | done f =>
      obtain ⟨h', tk, acc', c', e, rfl, hk, hS', hacc⟩ := x
      cases e
      show wpAny _ A (load s.heap.objs.size >>= _) _ _ _
      refine wpAny_bind (wpAny_load hS' ?_)
      exact wpAny_pure (h h' tk acc' hk (Heap.lt_size hS') hacc)
    | again c₁ =>
      refine ⟨x.1, codeAny_mono x.2 fun q s₂ y => ?_⟩
      obtain ⟨h', tk, acc', c', rfl, rfl, hk, hS', hacc⟩ := y
      show wpAny _ A (load s.heap.objs.size >>= _) _ _ _
      refine wpAny_bind (wpAny_load hS' ?_)
      exact wpAny_pure (h h' tk acc' hk (Heap.lt_size hS') hacc)
  · obtain ⟨_, _, _, _, e', _⟩ := x
    cases e'

end
section
variable {X : Cx} {pins : List (Addr × Obj)} {σ : L2.St} {H : Hp} {s : Shared}
/-- the relation of values to pairs -/
def VP (H : Hp) (u : Value) (k : NN) : Prop := ∃ p, u = .ref p ∧ H p = some (.tup [.int (k.1 : Int), .int (k.2 : Int)])
theorem vp_each {ls : List NN} {us : List Value} (p : EachIs (VP H) us ls) : ∃ xs, Paired (RNN H) ls xs ∧ Vals xs us := by
  induction p with
  | nil => exact ⟨[], .nil, .nil⟩
  | cons h t ih =>
    obtain ⟨p, rfl, hp⟩ := h
    obtain ⟨xs, h1, h2⟩ := ih
    exact ⟨.ref p :: xs, .cons ⟨p, _, _, rfl, hp, rfl, rfl⟩ h1, .cons rfl h2⟩
theorem vp_reads (I : Inv X pins σ H s) {ls : List NN} {us : List Value} (p : EachIs (VP H) us ls) : EachIs (fun v b => ∃ as, Reads s.heap v (encP b) as) us ls :=
  p.mono fun u k ⟨p, e, hp⟩ => by subst e; exact Dp.reads I _ _ _ (.tup (SqT.of hp) (.cons (.int _) (.cons (.int _) .nil))) rfl
theorem keys_each {kvs : List (List L2.Key × V)} {bs : List Addr} {ks : List NN} (h : IsKeys H kvs bs) (e : kvs.map (·.1) = ks.map ky) : EachIs (VP H) (bs.map Value.ref) ks := by
  unfold IsKeys at h
  induction h generalizing ks with
  | nil =>
    cases ks with
    | nil => exact .nil
    | cons k ks => cases e
  | cons h t ih =>
    cases ks with
    | nil => cases e
    | cons k ks =>
      rw [List.map_cons, List.map_cons] at e
      injection e with e1 e2
      refine .cons ⟨_, rfl, ?_⟩ (ih e2)
      rw [h, e1]
      rfl
def rSortD : List V → Hp → VK → Prop := fun vs H Q => ∃ (d : Addr) (kvs : List (List L2.Key × V)) (ks : List NN), vs = [V.ref d] ∧ H d = some (.dT kvs) ∧ kvs.map (·.1) = ks.map ky ∧
  ∀ p H' out, Same H H' → H p = none → Paired (RNN H') (ks.mergeSort leP) out → H' p = some (.lst out) → Q (.ref p) H'
theorem cr_sortD (hc : X.calm = true) (hu : X.A.units + 200 < cLine) : CallR X (.builtin "sorted") rSortD := by
  intro pins s σ H xs us Q I r h
  obtain ⟨d, kvs, ks0, rfl, hd, hks, q⟩ := h
  obtain ⟨u, rfl, rx⟩ := r.one
  cases rx
  obtain ⟨z, hs, ks, pr, o, es, ep, ho, hx, hdt, he, hn⟩ := (show ObjOk X.prog X.w H s.heap d (.dT kvs) from I.hok _ _ hd)
  have l1 : es.size = ks.length := size_of_entries he
  have l2 : kvs.length = ks.length := Paired.length pr
  refine call_function_entry kind_sorted plain_sorted entry_sorted (args_sorted1 _) ?_
  unfold Builtin.«sorted»
  refine wpAny_bind (m := checkCount "sorted" 1 1 _) (wpAny_pure ?_)
  refine wpAny_bind (collect_more (A := X.A.in1) (kdl_raw hs hx hdt) (show X.A.in1.handled = none from I.ok.hd hc) ho (by omega) fun h' tk acc' kp hsz' it => ?_)
  have ea : acc'.toList = ks.map fun x => Value.ref x.2.1 := by
    have hl : acc'.toList.length = ks.length := by rw [Array.length_toList, it.1]; exact l1
    apply List.ext_getElem?
    intro j
    rw [List.getElem?_map]
    cases hj : acc'.toList[j]? with
    | none =>
      have h1 := List.getElem?_eq_none_iff.mp hj
      rw [List.getElem?_eq_none (by omega)]
      all_goals rfl
    | some v =>
      obtain ⟨en, hen, hv⟩ := it.2 j v (by rw [← Array.getElem?_toList]; exact hj)
      have qe := entry_at he j
      rw [hen] at qe
      cases hb : ks[j]? with
      | none =>
        rw [hb] at qe
        exact nomatch (show some en = none from qe)
      | some b =>
        rw [hb] at qe
        have e2 : en = entryOfKey (tupleKind (mixKind X.prog X.w)) b := Option.some.inj qe
        rw [hv, e2]
        all_goals rfl
  have eb : acc'.toList = (ks.map fun x => x.2.1).map Value.ref := by rw [ea, List.map_map]; all_goals rfl
  rw [eb]
  have hlen : ((ks.map fun x => x.2.1).map Value.ref).length ≤ sizeLine := by rw [List.length_map, List.length_map]; omega
  have hev := keys_each (isKeys_of pr) hks
  have hl0 : ks0.length = kvs.length := by
    have := congrArg List.length hks
    rw [List.length_map, List.length_map] at this
    exact this.symm
  generalize hvs : (ks.map fun x => x.2.1).map Value.ref = vs at hlen hev
  refine wpAny_bind (wpAny_newList ?_ hlen)
  have hD : (h'.push (seqObj "list" vs.toArray 0)).get? h'.objs.size = some (seqObj "list" vs.toArray 0) := Heap.get?_push_size _ rfl
  have hle : s.heap.objs.size ≤ h'.objs.size := Nat.le_of_lt hsz'
  have kp2 : ∀ b o, s.heap.get? b = some o → (sortingHeap (h'.push (seqObj "list" vs.toArray 0)) h'.objs.size vs).get? b = some o := fun b o q => sortingHeap_old (Nat.ne_of_lt (Nat.lt_of_lt_of_le (Heap.lt_size q) hle)) (Heap.get?_push_of_some _ (kp b o q))
  have Is : Inv X pins σ H { s with heap := sortingHeap (h'.push (seqObj "list" vs.toArray 0)) h'.objs.size vs, toks := tk } := I.kept (t' := tk) kp2
  have er := vp_reads Is hev
  refine wpAny_bind (wpAny_holding (wpAny_call_entry slot_list_sort ⟨_, hD, rfl⟩ entry_list_sort (list_sort_vals (κ := dataKind (sortingHeap (h'.push (seqObj "list" vs.toArray 0)) h'.objs.size vs) (ks0.map encP)) hD
    (SortsAt.data (s := { s with heap := sortingHeap (h'.push (seqObj "list" vs.toArray 0)) h'.objs.size vs, toks := tk }) (each_map (R := fun v d => ∃ as, Reads (sortingHeap (h'.push (seqObj "list" vs.toArray 0)) h'.objs.size vs) v d as) encP er) (AllAlike.of fun b b' => by simp [encP, alike, alikeAll]) (Sortable.tuples fun b => ⟨_, _, rfl⟩) (fun d hd => by
      obtain ⟨b, _, rfl⟩ := List.mem_map.mp hd
      have : (encP b).depth ≤ 10 := by simp [encP, PyData.depth, PyData.depthAll]
      show X.A.units + 1 + 1 + _ < _
      omega)) hlen ⟨.none, rfl, ?_⟩) (args_list_sort _)))
  have hso := sortVals_data false hev er (AllAlike.of fun b b' => by simp [encP, alike, alikeAll])
  rw [encP_le] at hso
  obtain ⟨out, hp1, hp2⟩ := vp_each hso
  obtain ⟨ee, hat⟩ := sortedHeap_at (out := (sortVals (dataKind (sortingHeap (h'.push (seqObj "list" vs.toArray 0)) h'.objs.size vs) (ks0.map encP)) false vs vs).toArray) hD
  have hn1 : H h'.objs.size = none := I.hok.fresh hle
  have hol : out.length ≤ sizeLine := by
    have := paired_len hp1
    rw [List.length_mergeSort] at this
    omega
  have sE : Same H (upd H h'.objs.size (.lst out)) := same_new hn1
  refine wpAny_pure ⟨_, rfl, .ref h'.objs.size, upd H h'.objs.size (.lst out), I.laid (t' := tk) (fun b o q => ?_) hle ⟨hol, _, ee, hp2, hat⟩, rfl, q _ _ out sE hn1 (paired_rm rt_nn.m sE hp1) upd_same⟩
  have hlt : b < s.heap.objs.size := Heap.lt_size q
  exact (sortedHeap_old (Nat.ne_of_lt (Nat.lt_of_lt_of_le hlt hle)) (by rw [Heap.size_push]; exact Nat.lt_succ_of_lt (Nat.lt_of_lt_of_le hlt hle))).trans (Heap.get?_push_of_some _ (kp b o q))
end
end Pz
end
section
set_option Elab.async false
set_option linter.all false
set_option maxRecDepth 100000
set_option maxHeartbeats 4000000
namespace Pz
open PySem PySem.Spec PyProof.Rows L2
/-! ### methods, classes -/
/-- a method of the class at C -/
def DfM (K : PySem.W.Frag) (C : Addr) (m qual : Str) (st : Stmt) (f : Addr) : Prop := ∃ fd, FunD K m qual (defArgs st) (defBody st) (defScope st) [] [] f fd
/-- the function at f keeps the promise sp -/
def PmM (P : Program) (w : World) (K : PySem.W.Frag) (mg : Str → Option Value) (base : Heap) (f : Addr) (k : Nat) (ps : List Str) (sp : Sp) : Prop := ∃ fd, Binds K fd ps [] ∧ FnOk P w K mg base CX0 k f fd ps sp
section
variable {P : Program} {w : World} {K : PySem.W.Frag} {mg : Str → Option Value} {base : Heap} {C f : Addr} {m qual : Str} {st : Stmt} {N ps : List Str} {k : Nat} {sp : Sp}
theorem DfM.pm (D : DfM K C m qual st f) (S : FnScope N ps (defScope st))
    (hb : ∀ (kV doc pm : Value) (an : Option Addr) (cdv ct : Value) (us : List Value), us.length = ps.length → bindArgs (PySem.W.fnOf m qual (defArgs st) (defBody st) (defScope st) .none kV doc pm an cdv ct) ⟨us, []⟩ = pure (ps.zip us))
    (len : ∀ vs H Q E, sp vs H Q E → vs.length = ps.length)
    (body : ∀ (cdv : Value) (A : Around) (outer : List Env) (s : Shared) (H : Hp) (vs : List V) (Q : VK) (E : XK), Room k (A.deeper (envOfC qual (defScope st) s.heap.objs.size f cdv)) → sp vs H Q E →
      RSs (cxOf CX0 P w K mg base N qual (defScope st) f cdv A outer s H E).nox (defBody st) { nx := fun _ H' => Q .non H', rt := Q } (start N vs) H) : PmM P w K mg base f (k + 1) ps sp := by
  obtain ⟨fd, F⟩ := D
  refine ⟨fd, F.bindsN hb, F.ok S len fun cdv A outer s H vs Q E hr h => ?_⟩
  obtain ⟨t, p, q⟩ := body cdv A outer s H vs Q E hr h
  exact ⟨t, p.nox, q⟩
theorem PmM.mono {j : Nat} (G : PmM P w K mg base f k ps sp) (h : k ≤ j) : PmM P w K mg base f j ps sp := let ⟨fd, b, F⟩ := G; ⟨fd, b, F.mono h⟩
end
section
variable {X : Cx} {o e a b c : Expr} {es : List Expr} {σ : L2.St} {H : Hp} {P Pa Pb Pc : V → Hp → Prop} {C f : Addr} {m x : Str} {ps : List Str} {k : Nat} {sp : Sp} {p pos apos tpos : Pos} {D : Ends}
/-- C(e, ..) -/
theorem re_make {A : List V → Hp → Prop} {Q : VK} (M : Mk X.K C f) (G : PmM X.prog X.w X.K X.mg X.base f k ps sp) (hr : Room (k + 1) X.A) (hm : X.mg x = some (.ref C)) (ha : CA X (e :: es) σ H A)
    (h : ∀ vs H1, Same H H1 → A vs H1 → ∀ a dx, H1 a = none → H1 dx = none → dx ≠ a → sp (.ref a :: vs) (L2.upd (L2.upd H1 dx (.own a)) a (.ins C dx [])) (fun v H2 => v = .non ∧ Q (.ref a) H2) E0) (hg : Gl X x := by rfl)
    (hdb : (x == ("__debug__" : Str)) = false := by decide) (he : starEach (e :: es) X.env = (false, eval e X.env) :: starEach es X.env := by rfl) (hpl : (backTo pos (starEach es X.env)).any (·.1) = false := by rfl) : RE X (.Call (.Name x p) (e :: es) [] pos) σ H Q := by
  obtain ⟨fd, hb, F⟩ := G
  exact ⟨_, pe_make (E := E0) M F hr hg hm hb .nil pass0 ra_pa hdb he hpl, ha H (Same.refl _) _ fun vs H1 s1 av a dx h1 h2 h3 => by
    rw [List.append_nil]
    exact h vs H1 s1 av a dx h1 h2 h3⟩
/-- o.m(e, ..) -/
theorem re_meth {A : List V → Hp → Prop} {Q : VK} (c : Cls X.K C) (M : Meth X.K C m f) (G : PmM X.prog X.w X.K X.mg X.base f k ps sp) (hr : Room k X.A) (ho : CP X o σ H P) (ha : ∀ H1, Same H H1 → CA X (e :: es) σ H1 A)
    (h : ∀ v H1, Same H H1 → P v H1 → ∃ a dx fs, v = .ref a ∧ H1 a = some (.ins C dx fs) ∧ fs.lookup m = none ∧ ∀ vs H2, Same H1 H2 → A vs H2 → sp (.ref a :: vs) H2 Q E0)
    (hst : starEach (e :: es) X.env = (false, eval e X.env) :: starEach es X.env := by rfl) (hpl : (backTo pos (starEach es X.env)).any (·.1) = false := by rfl)
    {pl : Sem Bool} (ht : eval (.Call (.Attribute o m apos) (e :: es) [] pos) X.env = (do
      let ov ← eval o X.env
      standAt apos.atName
      let (f, first) ← holding [ov] (getMethod ov m pl)
      callWith pos f first (backTo pos (starEach (e :: es) X.env)) (backToKw pos (keywordEach [] X.env))) := by rfl) : RE X (.Call (.Attribute o m apos) (e :: es) [] pos) σ H Q := by
  obtain ⟨fd, hb, F⟩ := G
  exact ⟨_, pe_meth (E := E0) re_pe c M F hr hb .nil pass0 ra_pa hst hpl ht, ho H (Same.refl _) _ fun v H1 s1 pv => by
    obtain ⟨a, dx, fs, ev, ha1, hl, k'⟩ := h v H1 s1 pv
    refine ⟨a, dx, fs, ev, ha1, hl, ha H1 s1 H1 (Same.refl _) _ fun vs H2 s2 av => ?_⟩
    rw [List.append_nil, ev]
    exact k' vs H2 s2 av⟩
/-- o.m() -/
theorem re_meth0 {Q : VK} (c : Cls X.K C) (M : Meth X.K C m f) (G : PmM X.prog X.w X.K X.mg X.base f k ps sp) (hr : Room k X.A) (ho : CP X o σ H P)
    (h : ∀ v H1, Same H H1 → P v H1 → ∃ a dx fs, v = .ref a ∧ H1 a = some (.ins C dx fs) ∧ fs.lookup m = none ∧ sp [.ref a] H1 Q E0)
    {pl : Sem Bool} (ht : eval (.Call (.Attribute o m apos) [] [] pos) X.env = (do
      let ov ← eval o X.env
      standAt apos.atName
      let (f, first) ← holding [ov] (getMethod ov m pl)
      callWith pos f first (backTo pos (starEach [] X.env)) (backToKw pos (keywordEach [] X.env))) := by rfl) : RE X (.Call (.Attribute o m apos) [] [] pos) σ H Q := by
  obtain ⟨fd, hb, F⟩ := G
  exact ⟨_, pe_meth0 (E := E0) re_pe c M F hr hb .nil pass0 ht, ho H (Same.refl _) _ fun v H1 s1 pv => by
    obtain ⟨a, dx, fs, ev, ha1, hl, k'⟩ := h v H1 s1 pv
    exact ⟨a, dx, fs, ev, ha1, hl, by rw [ev]; exact k'⟩⟩
/-- o.f = e -/
theorem s_fld {fn : Str} {pos' : Pos} {at_ : Addr} {dx : Addr} {fs : List (Str × V)} (he : CP X e σ H P) (ho : CV X o σ H (.ref at_)) (ha : H at_ = some (.ins C dx fs)) (c : Cls X.K C) (n : NoAttr X.K C fn) (hl : fs.length < 1000)
    (k : ∀ v H1, Same H H1 → P v H1 → D.nx σ (L2.upd H1 at_ (.ins C dx (putF fn v fs)))) (mp : Mon P) (hs : swapsWith e (some (.Attribute o fn pos')) pos.line X.env = pure false := by rfl) : RS X (.Assign [.Attribute o fn pos'] e pos) D σ H :=
  ⟨_, ps_fld re_pe re_pe hs, he H (Same.refl _) _ fun v H1 s1 pv => ho H1 s1 _ fun u H2 s2 eu => by
    subst eu
    exact ⟨at_, C, dx, fs, rfl, s2 _ _ (s1 _ _ ha), c, n, hl, k v H2 (s1.trans s2) (mp _ _ _ s2 pv)⟩⟩
/-! ### targets of several names -/
theorem g_pair {n1 n2 : Str} {p1 p2 : Pos} {kk : Nat} (i j : Nat) {v x y : V} {T : Addr} {Q : L2.St → Hp → Prop} (ev : v = .ref T) (hT : H T = some (.tup [x, y])) (q : Q ((σ.set i (some x)).set j (some y)) H) (hc : X.calm = true := by rfl) (hN : X.N.Nodup := by decide +kernel)
    (hi : X.N[i]? = some n1 := by rfl) (hj : X.N[j]? = some n2 := by rfl) (hx : Loc X.env.scope n1 := by first | exact Or.inl rfl | exact Or.inr rfl) (hy : Loc X.env.scope n2 := by first | exact Or.inl rfl | exact Or.inr rfl)
    (hf : X.fn n1 = true ∨ X.env.scope.names.lookup n1 = some .local := by first | exact .inl rfl | exact .inr rfl) (hf2 : X.fn n2 = true ∨ X.env.scope.names.lookup n2 = some .local := by first | exact .inl rfl | exact .inr rfl)
    (hn : (assignEach [Expr.Name n1 p1, .Name n2 p2] X.env).length = 2 := by rfl) (hst : (assignEach [Expr.Name n1 p1, .Name n2 p2] X.env).findIdx? (·.1) = none := by rfl)
    (h1 : (assignEach (Expr.Name n1 p1 :: [.Name n2 p2]) X.env).map (·.2) = assign (.Name n1 p1) X.env :: (assignEach [.Name n2 p2] X.env).map (·.2) := by rfl) (h2 : (assignEach (Expr.Name n2 p2 :: []) X.env).map (·.2) = assign (.Name n2 p2) X.env :: (assignEach [] X.env).map (·.2) := by rfl) :
    RG X (.Tuple [.Name n1 p1, .Name n2 p2] kk pos) v σ H Q :=
  ⟨_, pg_tup hc (pgs_cons (pg_name hN hi hx hf) (pgs_cons (pg_name hN hj hy hf2) pgs_nil h2) h1) hn hst, T, [x, y], ev, SqT.of hT, rfl, x, [y], rfl, y, [], rfl, rfl, q⟩
theorem g_trip {n1 n2 n3 : Str} {p1 p2 p3 : Pos} {kk : Nat} (i j l : Nat) {v x y z : V} {T : Addr} {Q : L2.St → Hp → Prop} (ev : v = .ref T) (hT : H T = some (.tup [x, y, z])) (q : Q (((σ.set i (some x)).set j (some y)).set l (some z)) H) (hc : X.calm = true := by rfl) (hN : X.N.Nodup := by decide +kernel)
    (hi : X.N[i]? = some n1 := by rfl) (hj : X.N[j]? = some n2 := by rfl) (hl : X.N[l]? = some n3 := by rfl) (hx : Loc X.env.scope n1 := by first | exact Or.inl rfl | exact Or.inr rfl) (hy : Loc X.env.scope n2 := by first | exact Or.inl rfl | exact Or.inr rfl) (hz : Loc X.env.scope n3 := by first | exact Or.inl rfl | exact Or.inr rfl)
    (hf : X.fn n1 = true ∨ X.env.scope.names.lookup n1 = some .local := by first | exact .inl rfl | exact .inr rfl) (hf2 : X.fn n2 = true ∨ X.env.scope.names.lookup n2 = some .local := by first | exact .inl rfl | exact .inr rfl) (hf3 : X.fn n3 = true ∨ X.env.scope.names.lookup n3 = some .local := by first | exact .inl rfl | exact .inr rfl)
    (hn : (assignEach [Expr.Name n1 p1, .Name n2 p2, .Name n3 p3] X.env).length = 3 := by rfl) (hst : (assignEach [Expr.Name n1 p1, .Name n2 p2, .Name n3 p3] X.env).findIdx? (·.1) = none := by rfl)
    (h1 : (assignEach (Expr.Name n1 p1 :: [.Name n2 p2, .Name n3 p3]) X.env).map (·.2) = assign (.Name n1 p1) X.env :: (assignEach [.Name n2 p2, .Name n3 p3] X.env).map (·.2) := by rfl) (h2 : (assignEach (Expr.Name n2 p2 :: [.Name n3 p3]) X.env).map (·.2) = assign (.Name n2 p2) X.env :: (assignEach [.Name n3 p3] X.env).map (·.2) := by rfl) (h3 : (assignEach (Expr.Name n3 p3 :: []) X.env).map (·.2) = assign (.Name n3 p3) X.env :: (assignEach [] X.env).map (·.2) := by rfl) :
    RG X (.Tuple [.Name n1 p1, .Name n2 p2, .Name n3 p3] kk pos) v σ H Q :=
  ⟨_, pg_tup hc (pgs_cons (pg_name hN hi hx hf) (pgs_cons (pg_name hN hj hy hf2) (pgs_cons (pg_name hN hl hz hf3) pgs_nil h3) h2) h1) hn hst, T, [x, y, z], ev, SqT.of hT, rfl, x, [y, z], rfl, y, [z], rfl, z, [], rfl, rfl, q⟩
theorem g_quad {n1 n2 n3 n4 : Str} {p1 p2 p3 p4 : Pos} {kk : Nat} (i j l q' : Nat) {v x y z u : V} {T : Addr} {Q : L2.St → Hp → Prop} (ev : v = .ref T) (hT : H T = some (.tup [x, y, z, u])) (q : Q ((((σ.set i (some x)).set j (some y)).set l (some z)).set q' (some u)) H) (hc : X.calm = true := by rfl) (hN : X.N.Nodup := by decide +kernel)
    (hi : X.N[i]? = some n1 := by rfl) (hj : X.N[j]? = some n2 := by rfl) (hl : X.N[l]? = some n3 := by rfl) (hq : X.N[q']? = some n4 := by rfl) (hx : Loc X.env.scope n1 := by first | exact Or.inl rfl | exact Or.inr rfl) (hy : Loc X.env.scope n2 := by first | exact Or.inl rfl | exact Or.inr rfl) (hz : Loc X.env.scope n3 := by first | exact Or.inl rfl | exact Or.inr rfl) (hu : Loc X.env.scope n4 := by first | exact Or.inl rfl | exact Or.inr rfl)
    (hf : X.fn n1 = true ∨ X.env.scope.names.lookup n1 = some .local := by first | exact .inl rfl | exact .inr rfl) (hf2 : X.fn n2 = true ∨ X.env.scope.names.lookup n2 = some .local := by first | exact .inl rfl | exact .inr rfl) (hf3 : X.fn n3 = true ∨ X.env.scope.names.lookup n3 = some .local := by first | exact .inl rfl | exact .inr rfl) (hf4 : X.fn n4 = true ∨ X.env.scope.names.lookup n4 = some .local := by first | exact .inl rfl | exact .inr rfl)
    (hn : (assignEach [Expr.Name n1 p1, .Name n2 p2, .Name n3 p3, .Name n4 p4] X.env).length = 4 := by rfl) (hst : (assignEach [Expr.Name n1 p1, .Name n2 p2, .Name n3 p3, .Name n4 p4] X.env).findIdx? (·.1) = none := by rfl)
    (h1 : (assignEach (Expr.Name n1 p1 :: [.Name n2 p2, .Name n3 p3, .Name n4 p4]) X.env).map (·.2) = assign (.Name n1 p1) X.env :: (assignEach [.Name n2 p2, .Name n3 p3, .Name n4 p4] X.env).map (·.2) := by rfl) (h2 : (assignEach (Expr.Name n2 p2 :: [.Name n3 p3, .Name n4 p4]) X.env).map (·.2) = assign (.Name n2 p2) X.env :: (assignEach [.Name n3 p3, .Name n4 p4] X.env).map (·.2) := by rfl)
    (h3 : (assignEach (Expr.Name n3 p3 :: [.Name n4 p4]) X.env).map (·.2) = assign (.Name n3 p3) X.env :: (assignEach [.Name n4 p4] X.env).map (·.2) := by rfl) (h4 : (assignEach (Expr.Name n4 p4 :: []) X.env).map (·.2) = assign (.Name n4 p4) X.env :: (assignEach [] X.env).map (·.2) := by rfl) :
    RG X (.Tuple [.Name n1 p1, .Name n2 p2, .Name n3 p3, .Name n4 p4] kk pos) v σ H Q :=
  ⟨_, pg_tup hc (pgs_cons (pg_name hN hi hx hf) (pgs_cons (pg_name hN hj hy hf2) (pgs_cons (pg_name hN hl hz hf3) (pgs_cons (pg_name hN hq hu hf4) pgs_nil h4) h3) h2) h1) hn hst, T, [x, y, z, u], ev, SqT.of hT, rfl, x, [y, z, u], rfl, y, [z, u], rfl, z, [u], rfl, u, [], rfl, rfl, q⟩
/-- target = e -/
theorem s_asg {tg : Expr} (he : CP X e σ H P) (k : ∀ v H1, Same H H1 → P v H1 → RG X tg v σ H1 D.nx) (hs : swapsWithSole [tg] e pos.line X.env = pure false := by rfl) (hw : swappedStores [tg] e X.env = pure none := by rfl)
    (h1 : (assignEach [tg] X.env).map (·.2) = [assign tg X.env] := by rfl) : RS X (.Assign [tg] e pos) D σ H :=
  ⟨_, ps_asg re_pe rg_pg hs hw h1, he H (Same.refl _) _ fun v H1 s1 pv => k v H1 s1 pv⟩
/-- x, y = a, b -/
theorem s_par {n1 n2 : Str} {px py pt : Pos} {kt k2 : Nat} {pt2 : Pos} (i j : Nat) {A : List V → Hp → Prop} (ha : CA X [a, b] σ H A) (k : ∀ vs H1, Same H H1 → A vs H1 → ∃ v w, vs = [v, w] ∧ D.nx ((σ.set i (some v)).set j (some w)) H1) (hij : i ≠ j := by decide) (hN : X.N.Nodup := by decide +kernel) (hi : X.N[i]? = some n1 := by rfl) (hj : X.N[j]? = some n2 := by rfl)
    (hx : X.env.scope.names.lookup n1 = some .local := by rfl) (hy : X.env.scope.names.lookup n2 = some .local := by rfl) (hc : X.calm = true := by rfl)
    (hw : swappedStores [.Tuple [.Name n1 px, .Name n2 py] kt pt] (.Tuple [a, b] k2 pt2) X.env = pure (some [n1, n2]) := by rfl) (hs : swapsWithSole [.Tuple [.Name n1 px, .Name n2 py] kt pt] (.Tuple [a, b] k2 pt2) pos.line X.env = pure false := by rfl) :
    RS X (.Assign [.Tuple [.Name n1 px, .Name n2 py] kt pt] (.Tuple [a, b] k2 pt2) pos) D σ H :=
  ⟨_, ps_par hc hN hi hj hij hx hy ra_pa hw hs, ha H (Same.refl _) _ fun vs H1 s1 av => k vs H1 s1 av⟩
/-- x, y, z = a, b, c -/
theorem s_par3 {n1 n2 n3 : Str} {px py pz pt : Pos} {kt k2 : Nat} {pt2 : Pos} (i j l : Nat) {A : List V → Hp → Prop} (ha : CA X [a, b, c] σ H A) (k : ∀ vs H1, Same H H1 → A vs H1 → ∃ u v w, vs = [u, v, w] ∧ D.nx (((σ.set i (some u)).set j (some v)).set l (some w)) H1)
    (hij : i ≠ j := by decide) (hil : i ≠ l := by decide) (hjl : j ≠ l := by decide) (hN : X.N.Nodup := by decide +kernel) (hi : X.N[i]? = some n1 := by rfl) (hj : X.N[j]? = some n2 := by rfl) (hl : X.N[l]? = some n3 := by rfl)
    (hx : X.env.scope.names.lookup n1 = some .local := by rfl) (hy : X.env.scope.names.lookup n2 = some .local := by rfl) (hz : X.env.scope.names.lookup n3 = some .local := by rfl) (hc : X.calm = true := by rfl)
    (hw : swappedStores [.Tuple [.Name n1 px, .Name n2 py, .Name n3 pz] kt pt] (.Tuple [a, b, c] k2 pt2) X.env = pure (some [n1, n2, n3]) := by rfl) (hs : swapsWithSole [.Tuple [.Name n1 px, .Name n2 py, .Name n3 pz] kt pt] (.Tuple [a, b, c] k2 pt2) pos.line X.env = pure false := by rfl) :
    RS X (.Assign [.Tuple [.Name n1 px, .Name n2 py, .Name n3 pz] kt pt] (.Tuple [a, b, c] k2 pt2) pos) D σ H :=
  ⟨_, ps_par3 hc hN hi hj hl hij hil hjl hx hy hz ra_pa hw hs, ha H (Same.refl _) _ fun vs H1 s1 av => k vs H1 s1 av⟩
/-! ### lists and tuples put together -/
theorem cp_catL {δ : Type} {R : Rel δ} {ds es' : List δ} (rm : RM R) (ha : CP X a σ H (fun v H1 => IsLst R H1 ds v)) (hb : CP X b σ H (fun v H1 => IsLst R H1 es' v)) (hz : ds.length + es'.length ≤ 100000) : CP X (.BinOp a .Add b pos) σ H (NewL R H (ds ++ es')) :=
  cp_op op_cat ha hb (fun v H1 H2 s h => rm_lst rm _ _ _ _ s h) fun x y H1 s1 ⟨l, xs, e1, h1, p1⟩ ⟨l2, ys, e2, h2, p2⟩ Q k => ⟨l, l2, xs, ys, e1, e2, h1, h2, by rw [← paired_len p1, ← paired_len p2, sizeLine_eq]; omega, fun p hp => k _ _ (same_new hp) ⟨p, _, rfl, s1.free hp, upd_same, paired_app (paired_rm rm (same_new hp) p1) (paired_rm rm (same_new hp) p2)⟩⟩
theorem cp_catT {δ : Type} {R : Rel δ} {ds es' : List δ} (rm : RM R) (ha : CP X a σ H (fun v H1 => IsTup R H1 ds v)) (hb : CP X b σ H (fun v H1 => IsTup R H1 es' v)) (hz : ds.length + es'.length ≤ 100000) : CP X (.BinOp a .Add b pos) σ H (fun v H1 => IsTup R H1 (ds ++ es') v) :=
  cp_op op_catA ha hb (fun v H1 H2 s ⟨l, xs, e1, h1, p1⟩ => ⟨l, xs, e1, s _ _ h1, paired_rm rm s p1⟩) fun x y H1 s1 ⟨l, xs, e1, h1, p1⟩ ⟨l2, ys, e2, h2, p2⟩ Q k => by
    refine ⟨l, l2, xs, ys, e1, e2, SqT.of h1, SqT.of h2, by rw [← paired_len p1, ← paired_len p2, sizeLine_eq]; omega, fun e => ?_, fun _ e => ?_, fun _ _ p hp => ?_⟩
    · subst e
      cases p1
      exact k _ _ (Same.refl _) ⟨l2, ys, rfl, h2, p2⟩
    · subst e
      cases p2
      rw [List.append_nil] at k
      exact k _ _ (Same.refl _) ⟨l, xs, rfl, h1, p1⟩
    · exact k _ _ (same_new hp) ⟨p, _, rfl, upd_same, paired_app (paired_rm rm (same_new hp) p1) (paired_rm rm (same_new hp) p2)⟩
/-- (*lot, block) -/
theorem cp_starTup {δ : Type} {R : Rel δ} {ds : List δ} {d : δ} {kk : Nat} (rm : RM R) (ha : CP X a σ H (fun v H1 => IsTup R H1 ds v)) (hb : CP X b σ H (fun v H1 => R H1 d v)) (hz : ds.length ≤ 900)
    (hs : starEach (.Starred a p :: [b]) X.env = (true, eval a X.env) :: starEach [b] X.env := by rfl) (hs2 : Sg X b := by rfl) : CP X (.Tuple [.Starred a p, b] kk pos) σ H (fun v H1 => IsTup R H1 (ds ++ [d]) v) := fun H1 s1 Q q =>
  ⟨_, pe_tup (StX.pa_star re_pe (pa_cons re_pe pa_nil hs2) hs), ha H1 s1 _ fun v H2 s2 ⟨l, xs, ev, hl, pr⟩ => ⟨l, xs, ev, Or.inl (SqT.of hl), hb H2 (s1.trans s2) _ fun u H3 s3 pu => by
    have hx := paired_len pr
    refine ⟨by rw [List.length_append, List.length_singleton, sizeLine_eq]; omega, fun t ht => q _ _ ((s2.trans s3).trans (same_new ht)) ⟨t, _, rfl, upd_same, paired_snoc (paired_rm rm (s3.trans (same_new ht)) pr) (rm _ _ _ _ (same_new ht) pu)⟩⟩⟩⟩
/-- [x] * n -/
theorem cp_repL {δ : Type} {R : Rel δ} {d : δ} {n : Nat} (rm : RM R) (ha : CP X a σ H (fun v H1 => IsLst R H1 [d] v)) (hb : CV X b σ H (.int (n : Int))) (hn : n ≤ 1000) : CP X (.BinOp a .Mult b pos) σ H (NewL R H (List.replicate n d)) :=
  cp_op op_rep ha hb (fun v H1 H2 s h => rm_lst rm _ _ _ _ s h) fun x y H1 s1 ⟨l, xs, e1, h1, p1⟩ e2 Q k => by
    subst e2
    cases p1 with
    | cons h t =>
      cases t
      refine ⟨l, n, _, e1, rfl, h1, by omega, by omega, by rw [sizeLine_eq]; simp; omega, fun p hp => k _ _ (same_new hp) ⟨p, _, rfl, s1.free hp, upd_same, ?_⟩⟩
      have e : ((n : Int)).toNat = n := by omega
      rw [e]
      have key : ∀ m : Nat, ∀ H9 : Hp, Same H1 H9 → Paired (R H9) (List.replicate m d) (List.replicate m [_]).flatten := fun m => by
        induction m with
        | zero => exact fun _ _ => .nil
        | succ m ih =>
          intro H9 s9
          rw [List.replicate_succ, List.replicate_succ, List.flatten_cons]
          exact .cons (rm _ _ _ _ s9 h) (ih H9 s9)
      exact key n _ (same_new hp)
end
end Pz
end
section
set_option Elab.async false
set_option linter.all false
set_option maxRecDepth 100000
set_option maxHeartbeats 4000000
namespace Pz
open PySem PySem.Spec PyProof.Rows L2
section
variable {P : Program} {w : World} {K : PySem.W.Frag} {mg : Str → Option Value} {base : Heap}
/-- the tables of grounds -/
structure WfG (t : List (List Nat)) : Prop where
  ok : Pt.TabOk t
  pos : 1 ≤ t.length
  le : t.length ≤ 10
theorem WfG.c (h : WfG t) {c : List Nat} (hc : c ∈ t) : ∃ b, t.getD b [] = c ∧ b < t.length := by
  obtain ⟨i, hi, e⟩ := List.mem_iff_getElem.mp hc
  exact ⟨i, by rw [List.getD, List.getElem?_eq_getElem hi, e]; rfl, hi⟩
theorem asc_len {l : List Nat} (h : Pt.Asc l) {n : Nat} (hn : ∀ x ∈ l, x < n) : l.length ≤ n := Pt.nd_len n l h.nodup hn
/-! ### is_cover -/
def aCover (i : List Nat × Nat) (vs : List V) (H : Hp) : Prop := ∃ v, vs = [v, .int (i.2 : Int)] ∧ IsL H i.1 v ∧ Pt.Asc i.1 ∧ i.1.length ≤ 1000 ∧ ∀ x ∈ i.1, x < i.2
abbrev PCover (P : Program) (w : World) (K : PySem.W.Frag) (mg : Str → Option Value) (base : Heap) : Prop := Pm P w K mg base "is_cover" 2 ["value", "block"] (SpI aCover rTrue)
theorem sc_is_cover : FnScope ["value", "block", "one"] ["value", "block"] (defScope s_is_cover) := ⟨rfl, rfl, rfl, by decide +kernel, rfl, by decide +kernel, by decide +kernel⟩
theorem tyx_l {H : Hp} {l : List Nat} {v : V} (h : IsL H l v) : TyX K H v (.type "tuple") := by
  obtain ⟨a, e, q⟩ := h
  subst e
  exact .base (.tup q)
theorem ok_is_cover (T : Tx K mg) (GF : PFrom P w K mg base) (GR : PRises P w K mg base) (D : Df K mg "is_cover" s_is_cover) : PCover P w K mg base := by
  refine D.pm sc_is_cover (fun _ _ _ _ _ _ us hl => match us, hl with | [_, _], _ => rfl) (fun vs H Q E h => ?_) (fun f cdv A outer s H vs Q E hr h => ?_)
  · obtain ⟨i, ⟨v, rfl, _⟩, _⟩ := h; rfl
  · obtain ⟨⟨l, b⟩, ⟨v, rfl, hl, ha, hz, hb⟩, k⟩ := h
    refine ss_one (s_ret (P := fun v _ => v = .bl true) (CP.imp (cv_and (k := true) (l := true) ?_ fun _ => cv_and (k := true) (l := true) ?_ fun _ => cv_one ?_) fun v H1 _ e => e) fun v H1 s1 e => k v H1 s1 e)
    · exact cv_isiTy (u := "tuple") T.isi T.tuple (by decide +kernel) ((cv_var 0 rfl).imp fun u H1 s1 e => (show IsL H1 l u by subst e; exact hl.m s1)) (mon_l l) (fun v H1 _ e => tyx_l e) (kit_ty (by decide +kernel))
    · have e : l.all (fun x => decide ((0 : Int) ≤ (x : Int)) && decide ((x : Int) ≤ (b : Int) - 1)) = true := by
        rw [List.all_eq_true]
        intro x hx
        have := hb x hx
        simp; omega
      rw [← e]
      refine cv_allOver [("one", 2)] (j := 2) (fun x : Nat => decide ((0 : Int) ≤ (x : Int)) && decide ((x : Int) ≤ (b : Int) - 1)) T.all (ci_tup ((cv_var 0 rfl).imp fun u H1 s1 e => by subst e; exact isL_tup.mp (hl.m s1)) rt_nat) (fun _ _ s => Same.ts s) (Nat.le_trans hz (by decide)) ?_ sc_is_cover.nd
        (blkOk_by (own := [("one", 2)]) (N := ["value", "block", "one"]) (sc := defScope s_is_cover) (by decide +kernel)) (fun _ _ _ _ _ => pg_name (i := 2) sc_is_cover.nd rfl (Or.inl rfl)) (fun _ => rfl)
      intro s0 H0 C cl fp d x H' hd s1 hx
      have hx : x = .int (d : Int) := hx
      subst hx
      exact CP.imp (cp_callI GF ((d : Int), (0 : Int), (b : Int) - 1) hr (ca_v (cv_var 2 rfl) (ca_v cv_int (ca_v (cv_sub (cv_var 1 rfl) cv_int) ca_nil))) (fun vs H1 _ e => e)) fun v H1 _ e => e
    · exact CP.imp (cp_callI GR l hr (ca_one (cv_var 0 rfl)) (fun vs H1 s1 ⟨u, e, eu⟩ => ⟨u, e, by subst eu; exact hl.m s1, ha, hz⟩)) fun v H1 _ e => e
/-! ### need_ground -/
def aG (t : List (List Nat)) (C : Addr) (vs : List V) (H : Hp) : Prop := ∃ v, vs = [v] ∧ IsG C H t v
def rNon {ι : Type} (_ : ι) (v : V) (_ : Hp) : Prop := v = .non
abbrev PNeedG (P : Program) (w : World) (K : PySem.W.Frag) (mg : Str → Option Value) (base : Heap) : Prop := Pm P w K mg base "need_ground" 1 ["ground"] (SpI (fun t vs H => aG t (CG K) vs H) rNon)
theorem sc_need_ground : FnScope ["ground"] ["ground"] (defScope s_need_ground) := ⟨rfl, rfl, rfl, by decide +kernel, rfl, by decide +kernel, by decide +kernel⟩
theorem ok_need_ground (T : Tx K mg) (D : Df K mg "need_ground" s_need_ground) : PNeedG P w K mg base := by
  refine D.pm sc_need_ground (fun _ _ _ _ _ _ us hl => match us, hl with | [_], _ => rfl) (fun vs H Q E h => ?_) (fun f cdv A outer s H vs Q E hr h => ?_)
  · obtain ⟨i, ⟨v, rfl, _⟩, _⟩ := h; rfl
  · obtain ⟨t, ⟨v, rfl, hg⟩, k⟩ := h
    refine ss_one (s_guard (ct_not (k := true) (ct_val ?_)) fun H1 s1 => k _ H1 s1 rfl)
    refine cp_callB call_isi rfl T.isi (by decide +kernel) (ca_v (cv_var 0 rfl) (ca_v (cv_glob (v := .ref (CG K)) rfl T.gG rfl) ca_nil)) fun vs H1 s1 e Q k => ?_
    subst e
    obtain ⟨a, dx, vt, rfl, ha, _⟩ := hg.m s1
    refine ⟨_, _, .ref (CG K), .ref (CG K), true, rfl, .own _, .base (.ins ha T.cG T.i1 T.i2 T.i3 T.i4), ?_, k _ H1 (Same.refl _) rfl⟩
    unfold PySem.W.kitOne
    rw [if_pos (by simp)]
/-! ### len of a ground -/
theorem sc_G_len : FnScope ["self"] ["self"] (defScope s_G_len) := ⟨rfl, rfl, rfl, by decide +kernel, rfl, by decide +kernel, by decide +kernel⟩
theorem ok_len (T : Tx K mg) (D : DfM K (CG K) "__len__" "Ground.__len__" s_G_len (He.ma K (CG K) "__len__")) : LenG P w K mg base (CG K) := by
  obtain ⟨fd, F⟩ := D
  refine ⟨_, fd, T.mL, F.bindsN fun _ _ _ _ _ _ us hl => match us, hl with | [_], _ => rfl, F.ok sc_G_len (fun vs H Q E h => ?_) fun cdv A outer s H vs Q E hr h => ?_⟩
  · obtain ⟨i, ⟨v, rfl, _⟩, _⟩ := h; rfl
  · obtain ⟨t, ⟨v, rfl, hg⟩, k⟩ := h
    have B : RSs (cxOf CX0 P w K mg base ["self"] "Ground.__len__" (defScope s_G_len) (He.ma K (CG K) "__len__") cdv A outer s H E).nox (defBody s_G_len) { nx := fun _ H' => Q .non H', rt := Q } (start ["self"] [v]) H :=
      ss_one (s_ret (cv_len T.len (cp_table ((cv_var 0 rfl).imp fun u H1 s1 e => by subst e; exact hg.m s1) T.cG T.nT) fun u H1 s1 h => h.sized) fun u H1 s1 e => k u H1 s1 e)
    obtain ⟨t', p, q⟩ := B
    exact ⟨t', p.nox, q⟩
/-! ### is_block -/
def aBlock (C : Addr) (i : List (List Nat) × Nat) (vs : List V) (H : Hp) : Prop := ∃ v, vs = [v, .int (i.2 : Int)] ∧ IsG C H i.1 v ∧ i.1.length < 1000 ∧ i.2 < i.1.length
abbrev PBlock (P : Program) (w : World) (K : PySem.W.Frag) (mg : Str → Option Value) (base : Heap) : Prop := Pm P w K mg base "is_block" 3 ["ground", "value"] (SpI (aBlock (CG K)) rTrue)
theorem sc_is_block : FnScope ["ground", "value"] ["ground", "value"] (defScope s_is_block) := ⟨rfl, rfl, rfl, by decide +kernel, rfl, by decide +kernel, by decide +kernel⟩
theorem ok_is_block (T : Tx K mg) (GL : LenG P w K mg base (CG K)) (GF : PFrom P w K mg base) (D : Df K mg "is_block" s_is_block) : PBlock P w K mg base := by
  refine D.pm sc_is_block (fun _ _ _ _ _ _ us hl => match us, hl with | [_, _], _ => rfl) (fun vs H Q E h => ?_) (fun f cdv A outer s H vs Q E hr h => ?_)
  · obtain ⟨i, ⟨v, rfl, _⟩, _⟩ := h; rfl
  · obtain ⟨⟨t, n⟩, ⟨v, rfl, hg, hz, hn⟩, k⟩ := h
    have hn : n < t.length := hn
    refine ss_one (s_ret (cp_callI GF ((n : Int), (0 : Int), (t.length : Int) - 1) (hr.mono (by decide)) (ca_v (cv_var 1 rfl) (ca_v cv_int (ca_v (cv_sub (cv_lenG GL hr T.len ((cv_var 0 rfl).imp fun u H1 s1 e => by subst e; exact hg.m s1) hz) cv_int) ca_nil))) fun vs H1 _ e => e) fun u H1 s1 e => k u H1 s1 ?_)
    have e : u = .bl (decide ((0 : Int) ≤ (n : Int)) && decide ((n : Int) ≤ (t.length : Int) - 1)) := e
    rw [e, decide_eq_true (by omega), decide_eq_true (by omega)]
    rfl
/-! ### is_lot, need_lot -/
def aLot (C : Addr) (i : List (List Nat) × List Nat) (vs : List V) (H : Hp) : Prop := ∃ v u, vs = [v, u] ∧ IsG C H i.1 v ∧ IsL H i.2 u ∧ i.1.length < 1000 ∧ Pt.Asc i.2 ∧ ∀ x ∈ i.2, x < i.1.length
abbrev PIsLot (P : Program) (w : World) (K : PySem.W.Frag) (mg : Str → Option Value) (base : Heap) : Prop := Pm P w K mg base "is_lot" 4 ["ground", "value"] (SpI (aLot (CG K)) rTrue)
theorem sc_is_lot : FnScope ["ground", "value", "one"] ["ground", "value"] (defScope s_is_lot) := ⟨rfl, rfl, rfl, by decide +kernel, rfl, by decide +kernel, by decide +kernel⟩
theorem ok_is_lot (T : Tx K mg) (GB : PBlock P w K mg base) (GR : PRises P w K mg base) (D : Df K mg "is_lot" s_is_lot) : PIsLot P w K mg base := by
  refine D.pm sc_is_lot (fun _ _ _ _ _ _ us hl => match us, hl with | [_, _], _ => rfl) (fun vs H Q E h => ?_) (fun f cdv A outer s H vs Q E hr h => ?_)
  · obtain ⟨i, ⟨v, u, rfl, _⟩, _⟩ := h; rfl
  · obtain ⟨⟨t, l⟩, ⟨v, u, rfl, hg, hl, hz, ha, hb⟩, k⟩ := h
    have hz2 : l.length ≤ t.length := asc_len ha hb
    have hz1 : t.length < 1000 := hz
    refine ss_one (s_ret (P := fun v _ => v = .bl true) (CP.imp (cv_and (k := true) (l := true) ?_ fun _ => cv_and (k := true) (l := true) ?_ fun _ => cv_one ?_) fun v H1 _ e => e) fun v H1 s1 e => k v H1 s1 e)
    · exact cv_isiTy (u := "tuple") T.isi T.tuple (by decide +kernel) ((cv_var 1 rfl).imp fun u H1 s1 e => (show IsL H1 l u by subst e; exact hl.m s1)) (mon_l l) (fun v H1 _ e => tyx_l e) (kit_ty (by decide +kernel))
    · have e : l.all (fun _ => true) = true := by simp
      rw [← e]
      refine cv_allOver [("one", 2)] (j := 2) (fun _ : Nat => true) T.all (ci_tup ((cv_var 1 rfl).imp fun u H1 s1 e => by subst e; exact isL_tup.mp (hl.m s1)) rt_nat) (fun _ _ s => Same.ts s) (by omega) ?_ sc_is_lot.nd
        (blkOk_by (own := [("one", 2)]) (N := ["ground", "value", "one"]) (sc := defScope s_is_lot) (by decide +kernel)) (fun _ _ _ _ _ => pg_name (i := 2) sc_is_lot.nd rfl (Or.inl rfl)) (fun _ => rfl)
      intro s0 H0 C cl fp d x H' hd s1 hx
      have hx : x = .int (d : Int) := hx
      subst hx
      exact CP.imp (cp_callI GB (t, d) hr (ca_v (cv_var 0 rfl) (ca_v (cv_var 2 rfl) ca_nil)) (fun vs H1 s2 e => ⟨_, e, (hg.m s1).m s2, hz, hb d hd⟩)) fun v H1 _ e => e
    · exact CP.imp (cp_callI GR l (hr.mono (by decide)) (ca_one (cv_var 1 rfl)) (fun vs H1 s1 ⟨u, e, eu⟩ => ⟨u, e, by subst eu; exact hl.m s1, ha, by omega⟩)) fun v H1 _ e => e
abbrev PNeedLot (P : Program) (w : World) (K : PySem.W.Frag) (mg : Str → Option Value) (base : Heap) : Prop := Pm P w K mg base "need_lot" 5 ["ground", "lot"] (SpI (aLot (CG K)) rNon)
theorem sc_need_lot : FnScope ["ground", "lot"] ["ground", "lot"] (defScope s_need_lot) := ⟨rfl, rfl, rfl, by decide +kernel, rfl, by decide +kernel, by decide +kernel⟩
theorem ok_need_lot (T : Tx K mg) (GN : PNeedG P w K mg base) (GI : PIsLot P w K mg base) (D : Df K mg "need_lot" s_need_lot) : PNeedLot P w K mg base := by
  refine D.pm sc_need_lot (fun _ _ _ _ _ _ us hl => match us, hl with | [_, _], _ => rfl) (fun vs H Q E h => ?_) (fun f cdv A outer s H vs Q E hr h => ?_)
  · obtain ⟨i, ⟨v, u, rfl, _⟩, _⟩ := h; rfl
  · obtain ⟨⟨t, l⟩, ⟨v, u, rfl, hg, hl, hz, ha, hb⟩, k⟩ := h
    refine ss_cons (s_exprC (cp_callI GN t (hr.mono (by decide)) (ca_one (cv_var 0 rfl)) (fun vs H1 s1 ⟨u, e, eu⟩ => ⟨u, e, by subst eu; exact hg.m s1⟩)) fun H1 s1 => ?_)
    refine ss_one (s_guard (ct_not (k := true) (ct_val (CP.imp (cp_callI GI (t, l) hr (ca_v (cv_var 0 rfl) (ca_v (cv_var 1 rfl) ca_nil)) fun vs H2 s2 e => ?_) fun v H1 _ e => e))) fun H2 s2 => k _ H2 (s1.trans s2) rfl)
    exact ⟨_, _, e, (hg.m s1).m s2, (hl.m s1).m s2, hz, ha, hb⟩
end
end Pz
end
section
set_option Elab.async false
set_option linter.all false
set_option maxRecDepth 100000
set_option maxHeartbeats 4000000
namespace Pz
open PySem PySem.Spec PyProof.Rows L2
section
variable {P : Program} {w : World} {K : PySem.W.Frag} {mg : Str → Option Value} {base : Heap}
theorem pit_len {t : List (List Nat)} {l : List Nat} (h : Pt.Pit t l) : l.length ≤ t.length := asc_len h.1 h.lt
theorem at_getD {t : List (List Nat)} {b : Nat} (h : b < t.length) : atI t (b : Int) = some (t.getD b []) := atI_nat (by rw [List.getD, List.getElem?_eq_getElem h]; rfl)
theorem cover_len {t : List (List Nat)} (tk : Pt.TabOk t) (b : Nat) : (t.getD b []).length ≤ b := asc_len (tk b).1 (tk b).2
/-! ### is_full, need_pit -/
def aPit (C : Addr) (i : List (List Nat) × List Nat) (vs : List V) (H : Hp) : Prop := ∃ v u, vs = [v, u] ∧ IsG C H i.1 v ∧ IsL H i.2 u ∧ WfG i.1 ∧ Pt.Pit i.1 i.2
abbrev PIsFull (P : Program) (w : World) (K : PySem.W.Frag) (mg : Str → Option Value) (base : Heap) : Prop := Pm P w K mg base "is_full" 1 ["ground", "lot"] (SpI (aPit (CG K)) rTrue)
theorem sc_is_full : FnScope ["ground", "lot", "block", "one"] ["ground", "lot"] (defScope s_is_full) := ⟨rfl, rfl, rfl, by decide +kernel, rfl, by decide +kernel, by decide +kernel⟩
theorem ok_is_full (T : Tx K mg) (D : Df K mg "is_full" s_is_full) : PIsFull P w K mg base := by
  refine D.pm sc_is_full (fun _ _ _ _ _ _ us hl => match us, hl with | [_, _], _ => rfl) (fun vs H Q E h => ?_) (fun f cdv A outer s H vs Q E hr h => ?_)
  · obtain ⟨i, ⟨v, u, rfl, _⟩, _⟩ := h; rfl
  · obtain ⟨⟨t, l⟩, ⟨v, u, rfl, hg, hl, wf, hp⟩, k⟩ := h
    have hp : Pt.Pit t l := hp
    have wf : WfG t := wf
    have hz := pit_len hp
    have h10 : t.length ≤ 10 := wf.le
    refine ss_one (s_ret (cv_all2 [("block", 2), ("one", 3)] (vs1 := [3]) (j := 2) (j1 := 3) (ds := l) (R := RNat) (es := fun b => t.getD b []) (R1 := RNat) T.all
      (ci_tup ((cv_var 1 rfl).imp fun u H1 s1 e => by subst e; exact isL_tup.mp (hl.m s1)) rt_nat) (by omega) (fun d hd => by have := cover_len wf.ok d; have := hp.lt d hd; omega) ?_ sc_is_full.nd
      (blkOk_by (own := [("block", 2), ("one", 3)]) (N := ["ground", "lot", "block", "one"]) (sc := defScope s_is_full) (by decide +kernel)) (by decide) (fun _ _ _ _ _ => pg_name (i := 2) sc_is_full.nd rfl (Or.inl rfl)) (fun _ _ _ _ _ => pg_name (i := 3) sc_is_full.nd rfl (Or.inl rfl)) (fun _ => rfl) (fun _ _ => rfl)) fun u H1 s1 e => k u H1 s1 e)
    intro s0 H0 C cl fp d x H' hd s1 hx
    have hx : x = .int (d : Int) := hx
    subst hx
    refine ⟨ci_tup (CP.imp (cp_ixT (i := (d : Int)) (cp_table ((cv_var 0 rfl).imp fun u H2 s2 e => by subst e; exact (hg.m s1).m s2) T.cG T.nT) (cv_var 2 rfl) (at_getD (hp.lt d hd)) rt_l.m) fun u H2 _ h => isL_tup.mp h) rt_nat, ?_⟩
    intro s1' H1' C1 cl1 fp1 d1 x1 H2 hd1 s2 hx1
    have hx1 : x1 = .int (d1 : Int) := hx1
    subst hx1
    refine CP.imp (cv_in (x := d1) (l := l) (cv_var 3 rfl) ((cv_var 1 rfl).imp fun u H3 s3 e => by subst e; exact (hl.m s2).m s3)) fun u H3 _ e => ?_
    rw [e, decide_eq_true ((hp.2 d hd).2 d1 hd1)]
abbrev PNeedPit (P : Program) (w : World) (K : PySem.W.Frag) (mg : Str → Option Value) (base : Heap) : Prop := Pm P w K mg base "need_pit" 6 ["ground", "pit"] (SpI (aPit (CG K)) rNon)
theorem sc_need_pit : FnScope ["ground", "pit"] ["ground", "pit"] (defScope s_need_pit) := ⟨rfl, rfl, rfl, by decide +kernel, rfl, by decide +kernel, by decide +kernel⟩
theorem ok_need_pit (T : Tx K mg) (GN : PNeedLot P w K mg base) (GI : PIsFull P w K mg base) (D : Df K mg "need_pit" s_need_pit) : PNeedPit P w K mg base := by
  refine D.pm sc_need_pit (fun _ _ _ _ _ _ us hl => match us, hl with | [_, _], _ => rfl) (fun vs H Q E h => ?_) (fun f cdv A outer s H vs Q E hr h => ?_)
  · obtain ⟨i, ⟨v, u, rfl, _⟩, _⟩ := h; rfl
  · obtain ⟨⟨t, l⟩, ⟨v, u, rfl, hg, hl, wf, hp⟩, k⟩ := h
    have h10 : t.length ≤ 10 := wf.le
    refine ss_cons (s_exprC (cp_callI GN (t, l) hr (ca_v (cv_var 0 rfl) (ca_v (cv_var 1 rfl) ca_nil)) (fun vs H1 s1 e => ⟨_, _, e, hg.m s1, hl.m s1, Nat.lt_of_le_of_lt h10 (by decide), hp.1, hp.lt⟩)) fun H1 s1 => ?_)
    refine ss_one (s_guard (ct_not (k := true) (ct_val (CP.imp (cp_callI GI (t, l) (hr.mono (by decide)) (ca_v (cv_var 0 rfl) (ca_v (cv_var 1 rfl) ca_nil)) fun vs H2 s2 e => ?_) fun v H1 _ e => e))) fun H2 s2 => k _ H2 (s1.trans s2) rfl)
    exact ⟨_, _, e, (hg.m s1).m s2, (hl.m s1).m s2, wf, hp⟩
/-! ### sum_of -/
def aSum (i : List Int × List Nat) (vs : List V) (H : Hp) : Prop := ∃ v u, vs = [v, u] ∧ IsW H i.1 v ∧ IsL H i.2 u ∧ i.2.length ≤ 1000 ∧ ∀ b ∈ i.2, b < i.1.length
def rSumW (i : List Int × List Nat) (v : V) (_ : Hp) : Prop := v = .int (Pt.wsum i.1 i.2)
abbrev PSum (P : Program) (w : World) (K : PySem.W.Frag) (mg : Str → Option Value) (base : Heap) : Prop := Pm P w K mg base "sum_of" 1 ["worths", "lot"] (SpI aSum rSumW)
theorem sc_sum_of : FnScope ["worths", "lot", "block"] ["worths", "lot"] (defScope s_sum_of) := ⟨rfl, rfl, rfl, by decide +kernel, rfl, by decide +kernel, by decide +kernel⟩
theorem atW {l : List Int} {b : Nat} (h : b < l.length) : atI l (b : Int) = some (l.getD b 0) := atI_nat (by rw [List.getD, List.getElem?_eq_getElem h]; rfl)
theorem ok_sum_of (T : Tx K mg) (D : Df K mg "sum_of" s_sum_of) : PSum P w K mg base := by
  refine D.pm sc_sum_of (fun _ _ _ _ _ _ us hl => match us, hl with | [_, _], _ => rfl) (fun vs H Q E h => ?_) (fun f cdv A outer s H vs Q E hr h => ?_)
  · obtain ⟨i, ⟨v, u, rfl, _⟩, _⟩ := h; rfl
  · obtain ⟨⟨wt, l⟩, ⟨v, u, rfl, hw, hl, hz, hb⟩, k⟩ := h
    refine ss_one (s_ret (cv_sum T.sum (lc_new (cp_lc1 [("block", 2)] (j := 2) (fun _ => true) (fun b : Nat => wt.getD b 0) RInt
      (ci_tup ((cv_var 1 rfl).imp fun u H1 s1 e => by subst e; exact isL_tup.mp (hl.m s1)) rt_nat) (fun _ _ s => Same.ts s) rt_int (Nat.le_trans hz (by decide)) ?_ rfl sc_sum_of.nd
      (blkOk_by (own := [("block", 2)]) (N := ["worths", "lot", "block"]) (sc := defScope s_sum_of) (by decide +kernel)) (fun _ _ _ _ _ => pg_name (i := 2) sc_sum_of.nd rfl (Or.inl rfl)) (fun _ => rfl)))) fun u H1 s1 e => k u H1 s1 ?_)
    · intro s0 H0 C cl fp d x H' hd s1 hx
      have hx : x = .int (d : Int) := hx
      subst hx
      exact ⟨cts_nil, fun _ => cp_ixT (R := RInt) (i := (d : Int)) ((cv_var 0 rfl).imp fun u H2 s2 e => by subst e; exact isW_tup.mp ((hw.m s1).m s2)) (cv_var 2 rfl) (atW (hb d hd)) rt_int.m⟩
    · rw [e, map_filter_true]; rfl
/-! ### lies_in, without, common -/
def aTwo (i : List Nat × List Nat) (vs : List V) (H : Hp) : Prop := ∃ v u, vs = [v, u] ∧ IsL H i.1 v ∧ IsL H i.2 u ∧ i.1.length ≤ 1000
def rLies (i : List Nat × List Nat) (v : V) (_ : Hp) : Prop := v = .bl (i.1.all fun b => decide (b ∈ i.2))
abbrev PLies (P : Program) (w : World) (K : PySem.W.Frag) (mg : Str → Option Value) (base : Heap) : Prop := Pm P w K mg base "lies_in" 1 ["lot", "other"] (SpI aTwo rLies)
theorem sc_lies_in : FnScope ["lot", "other", "block"] ["lot", "other"] (defScope s_lies_in) := ⟨rfl, rfl, rfl, by decide +kernel, rfl, by decide +kernel, by decide +kernel⟩
theorem ok_lies_in (T : Tx K mg) (D : Df K mg "lies_in" s_lies_in) : PLies P w K mg base := by
  refine D.pm sc_lies_in (fun _ _ _ _ _ _ us hl => match us, hl with | [_, _], _ => rfl) (fun vs H Q E h => ?_) (fun f cdv A outer s H vs Q E hr h => ?_)
  · obtain ⟨i, ⟨v, u, rfl, _⟩, _⟩ := h; rfl
  · obtain ⟨⟨l, m⟩, ⟨v, u, rfl, hl, hm, hz⟩, k⟩ := h
    refine ss_one (s_ret (cv_allOver [("block", 2)] (j := 2) (fun b : Nat => decide (b ∈ m)) T.all (ci_tup ((cv_var 0 rfl).imp fun u H1 s1 e => by subst e; exact isL_tup.mp (hl.m s1)) rt_nat) (fun _ _ s => Same.ts s) (Nat.le_trans hz (by decide)) ?_ sc_lies_in.nd
        (blkOk_by (own := [("block", 2)]) (N := ["lot", "other", "block"]) (sc := defScope s_lies_in) (by decide +kernel)) (fun _ _ _ _ _ => pg_name (i := 2) sc_lies_in.nd rfl (Or.inl rfl)) (fun _ => rfl)) fun u H1 s1 e => k u H1 s1 e)
    intro s0 H0 C cl fp d x H' hd s1 hx
    have hx : x = .int (d : Int) := hx
    subst hx
    exact cv_in (x := d) (l := m) (cv_var 2 rfl) ((cv_var 1 rfl).imp fun u H2 s2 e => by subst e; exact (hm.m s1).m s2)
def rWithout (i : List Nat × List Nat) (v : V) (H : Hp) : Prop := IsL H (i.1.filter fun b => decide (b ∉ i.2)) v
abbrev PWithout (P : Program) (w : World) (K : PySem.W.Frag) (mg : Str → Option Value) (base : Heap) : Prop := Pm P w K mg base "without" 1 ["lot", "other"] (SpI aTwo rWithout)
theorem sc_without : FnScope ["lot", "other", "block"] ["lot", "other"] (defScope s_without) := ⟨rfl, rfl, rfl, by decide +kernel, rfl, by decide +kernel, by decide +kernel⟩
theorem map_id' {l : List Nat} : (l.map fun b : Nat => b) = l := List.map_id _
theorem ok_without (T : Tx K mg) (D : Df K mg "without" s_without) : PWithout P w K mg base := by
  refine D.pm sc_without (fun _ _ _ _ _ _ us hl => match us, hl with | [_, _], _ => rfl) (fun vs H Q E h => ?_) (fun f cdv A outer s H vs Q E hr h => ?_)
  · obtain ⟨i, ⟨v, u, rfl, _⟩, _⟩ := h; rfl
  · obtain ⟨⟨l, m⟩, ⟨v, u, rfl, hl, hm, hz⟩, k⟩ := h
    refine ss_one (s_ret (cp_tupleOf T.tuple (CP.imp (cp_lc1 [("block", 2)] (j := 2) (fun b : Nat => decide (b ∉ m)) (fun b : Nat => b) RNat
      (ci_tup ((cv_var 0 rfl).imp fun u H1 s1 e => by subst e; exact isL_tup.mp (hl.m s1)) rt_nat) (fun _ _ s => Same.ts s) rt_nat (Nat.le_trans hz (by decide)) ?_ rfl sc_without.nd
      (blkOk_by (own := [("block", 2)]) (N := ["lot", "other", "block"]) (sc := defScope s_without) (by decide +kernel)) (fun _ _ _ _ _ => pg_name (i := 2) sc_without.nd rfl (Or.inl rfl)) (fun _ => rfl)) fun u H1 _ h => (lst_of h)) rt_nat.m) fun u H1 s1 e => k u H1 s1 ?_)
    · intro s0 H0 C cl fp d x H' hd s1 hx
      have hx : x = .int (d : Int) := hx
      subst hx
      exact ⟨cts_one (ct_notIn (x := d) (l := m) (cv_var 2 rfl) ((cv_var 1 rfl).imp fun u H2 s2 e => by subst e; exact (hm.m s1).m s2)), fun _ => cv_var 2 rfl⟩
    · rw [map_id'] at e
      exact isL_tup.mpr e
end
end Pz
end
section
set_option Elab.async false
set_option linter.all false
set_option maxRecDepth 100000
set_option maxHeartbeats 4000000
namespace Pz
open PySem PySem.Spec PyProof.Rows L2
section
variable {P : Program} {w : World} {K : PySem.W.Frag} {mg : Str → Option Value} {base : Heap}
/-! ### common -/
def rCommon (i : List Nat × List Nat) (v : V) (H : Hp) : Prop := IsL H (Pt.inter i.1 i.2) v
abbrev PCommon (P : Program) (w : World) (K : PySem.W.Frag) (mg : Str → Option Value) (base : Heap) : Prop := Pm P w K mg base "common" 1 ["one", "other"] (SpI aTwo rCommon)
theorem sc_common : FnScope ["one", "other", "block"] ["one", "other"] (defScope s_common) := ⟨rfl, rfl, rfl, by decide +kernel, rfl, by decide +kernel, by decide +kernel⟩
theorem ok_common (T : Tx K mg) (D : Df K mg "common" s_common) : PCommon P w K mg base := by
  refine D.pm sc_common (fun _ _ _ _ _ _ us hl => match us, hl with | [_, _], _ => rfl) (fun vs H Q E h => ?_) (fun f cdv A outer s H vs Q E hr h => ?_)
  · obtain ⟨i, ⟨v, u, rfl, _⟩, _⟩ := h; rfl
  · obtain ⟨⟨l, m⟩, ⟨v, u, rfl, hl, hm, hz⟩, k⟩ := h
    refine ss_one (s_ret (cp_tupleOf T.tuple (CP.imp (cp_lc1 [("block", 2)] (j := 2) (fun b : Nat => decide (b ∈ m)) (fun b : Nat => b) RNat
      (ci_tup ((cv_var 0 rfl).imp fun u H1 s1 e => by subst e; exact isL_tup.mp (hl.m s1)) rt_nat) (fun _ _ s => Same.ts s) rt_nat (Nat.le_trans hz (by decide)) ?_ rfl sc_common.nd
      (blkOk_by (own := [("block", 2)]) (N := ["one", "other", "block"]) (sc := defScope s_common) (by decide +kernel)) (fun _ _ _ _ _ => pg_name (i := 2) sc_common.nd rfl (Or.inl rfl)) (fun _ => rfl)) fun u H1 _ h => (lst_of h)) rt_nat.m) fun u H1 s1 e => k u H1 s1 ?_)
    · intro s0 H0 C cl fp d x H' hd s1 hx
      have hx : x = .int (d : Int) := hx
      subst hx
      exact ⟨cts_one (ct_in (x := d) (l := m) (cv_var 2 rfl) ((cv_var 1 rfl).imp fun u H2 s2 e => by subst e; exact (hm.m s1).m s2)), fun _ => cv_var 2 rfl⟩
    · rw [map_id'] at e
      exact isL_tup.mpr e
/-! ### need_worths, need_refills, need_both -/
structure WOk (n : Nat) (w : List Int) : Prop where
  len : w.length = n
  low : ∀ x ∈ w, -50 ≤ x
  high : ∀ x ∈ w, x ≤ 50
def aGW (C : Addr) (i : List (List Nat) × List Int) (vs : List V) (H : Hp) : Prop := ∃ v u, vs = [v, u] ∧ IsG C H i.1 v ∧ IsW H i.2 u ∧ WfG i.1 ∧ WOk i.1.length i.2
abbrev PNeedW (P : Program) (w : World) (K : PySem.W.Frag) (mg : Str → Option Value) (base : Heap) : Prop := Pm P w K mg base "need_worths" 3 ["ground", "worths"] (SpI (aGW (CG K)) rNon)
theorem sc_need_worths : FnScope ["ground", "worths", "worth"] ["ground", "worths"] (defScope s_need_worths) := ⟨rfl, rfl, rfl, by decide +kernel, rfl, by decide +kernel, by decide +kernel⟩
theorem tyx_w {H : Hp} {l : List Int} {v : V} (h : IsW H l v) : TyX K H v (.type "tuple") := by
  obtain ⟨a, e, q⟩ := h
  subst e
  exact .base (.tup q)
theorem ok_need_worths (T : Tx K mg) (GN : PNeedG P w K mg base) (GL : LenG P w K mg base (CG K)) (GF : PFrom P w K mg base) (D : Df K mg "need_worths" s_need_worths) : PNeedW P w K mg base := by
  refine D.pm sc_need_worths (fun _ _ _ _ _ _ us hl => match us, hl with | [_, _], _ => rfl) (fun vs H Q E h => ?_) (fun f cdv A outer s H vs Q E hr h => ?_)
  · obtain ⟨i, ⟨v, u, rfl, _⟩, _⟩ := h; rfl
  · obtain ⟨⟨t, wt⟩, ⟨v, u, rfl, hg, hw, wf, ok⟩, k⟩ := h
    have h10 : t.length ≤ 10 := wf.le
    have ok : WOk t.length wt := ok
    obtain ⟨tk, gW⟩ := T.mostW
    refine ss_cons (s_exprC (cp_callI GN t (hr.mono (by decide)) (ca_one (cv_var 0 rfl)) (fun vs H1 s1 ⟨u, e, eu⟩ => ⟨u, e, by subst eu; exact hg.m s1⟩)) fun H1 s1 => ?_)
    refine ss_cons (s_guard (CT.to (CW.ct (cw_or (k := false) (l := false) (ct_not (k := true) (ct_val (cv_isiTy (u := "tuple") T.isi T.tuple (by decide +kernel) ((cv_var 1 rfl).imp fun u H2 s2 e => (show IsW H2 wt u by subst e; exact (hw.m s1).m s2)) (mon_w wt) (fun v H1 _ e => tyx_w e) (kit_ty (by decide +kernel))))) fun _ =>
      cw_or1 (CT.to (ct_ne (x := .int (wt.length : Int)) (y := .int (t.length : Int)) (cv_len T.len (cv_var 1 rfl) fun u H2 s2 e => by subst e; exact (isW_tup.mp ((hw.m s1).m s2)).sized) (cv_lenG GL (hr.mono (by decide)) T.len ((cv_var 0 rfl).imp fun u H2 s2 e => by subst e; exact (hg.m s1).m s2) (by omega)) rfl) ?_))) rfl) fun H2 s2 => ?_)
    · rw [ok.len]; simp
    · have hS := s1.trans s2
      have e : wt.all (fun x => decide (-50 ≤ x) && decide (x ≤ 50)) = true := by
        rw [List.all_eq_true]
        intro x hx
        have := ok.low x hx
        have := ok.high x hx
        simp; omega
      refine ss_one (s_guard (CT.to (ct_not (k := true) (ct_val (CP.imp (cv_allOver [("worth", 2)] (j := 2) (fun x : Int => decide (-50 ≤ x) && decide (x ≤ 50)) T.all (ci_tup ((cv_var 1 rfl).imp fun u H3 s3 e => by subst e; exact isW_tup.mp ((hw.m hS).m s3)) rt_int) (fun _ _ s => Same.ts s) (by rw [ok.len]; omega) ?_ sc_need_worths.nd
        (blkOk_by (own := [("worth", 2)]) (N := ["ground", "worths", "worth"]) (sc := defScope s_need_worths) (by decide +kernel)) (fun _ _ _ _ _ => pg_name (i := 2) sc_need_worths.nd rfl (Or.inl rfl)) (fun _ => rfl)) fun u H3 _ q => (q.trans (by rw [e]))))) rfl) fun H3 s3 => k _ H3 (hS.trans s3) rfl)
      intro s0 H0 C cl fp d x H' hd s4 hx
      have hx : x = .int d := hx
      subst hx
      exact CP.imp (cp_callI GF (d, -50, 50) (hr.mono (by decide)) (ca_v (cv_var 2 rfl) (ca_v (cv_neg (cv_glob (v := .int 50) rfl gW ⟨tk, rfl⟩)) (ca_v (cv_glob (v := .int 50) rfl gW ⟨tk, rfl⟩) ca_nil))) (fun vs H1 _ e => e)) fun v H1 _ e => e
abbrev PNeedR (P : Program) (w : World) (K : PySem.W.Frag) (mg : Str → Option Value) (base : Heap) : Prop := Pm P w K mg base "need_refills" 3 ["ground", "refills"] (SpI (aGW (CG K)) rNon)
theorem sc_need_refills : FnScope ["ground", "refills", "refill"] ["ground", "refills"] (defScope s_need_refills) := ⟨rfl, rfl, rfl, by decide +kernel, rfl, by decide +kernel, by decide +kernel⟩
theorem ok_need_refills (T : Tx K mg) (GL : LenG P w K mg base (CG K)) (GF : PFrom P w K mg base) (D : Df K mg "need_refills" s_need_refills) : PNeedR P w K mg base := by
  refine D.pm sc_need_refills (fun _ _ _ _ _ _ us hl => match us, hl with | [_, _], _ => rfl) (fun vs H Q E h => ?_) (fun f cdv A outer s H vs Q E hr h => ?_)
  · obtain ⟨i, ⟨v, u, rfl, _⟩, _⟩ := h; rfl
  · obtain ⟨⟨t, wt⟩, ⟨v, u, rfl, hg, hw, wf, ok⟩, k⟩ := h
    have h10 : t.length ≤ 10 := wf.le
    have ok : WOk t.length wt := ok
    obtain ⟨tk, gW⟩ := T.mostW
    refine ss_cons (s_guard (CT.to (CW.ct (cw_or (k := false) (l := false) (ct_not (k := true) (ct_val (cv_isiTy (u := "tuple") T.isi T.tuple (by decide +kernel) ((cv_var 1 rfl).imp fun u H2 s2 e => (show IsW H2 wt u by subst e; exact hw.m s2)) (mon_w wt) (fun v H1 _ e => tyx_w e) (kit_ty (by decide +kernel))))) fun _ =>
      cw_or1 (CT.to (ct_ne (x := .int (wt.length : Int)) (y := .int (t.length : Int)) (cv_len T.len (cv_var 1 rfl) fun u H2 s2 e => by subst e; exact (isW_tup.mp (hw.m s2)).sized) (cv_lenG GL (hr.mono (by decide)) T.len ((cv_var 0 rfl).imp fun u H2 s2 e => by subst e; exact hg.m s2) (by omega)) rfl) ?_))) rfl) fun H2 hS => ?_)
    · rw [ok.len]; simp
    · have e : wt.all (fun x => decide (-50 ≤ x) && decide (x ≤ 50)) = true := by
        rw [List.all_eq_true]
        intro x hx
        have := ok.low x hx
        have := ok.high x hx
        simp; omega
      refine ss_one (s_guard (CT.to (ct_not (k := true) (ct_val (CP.imp (cv_allOver [("refill", 2)] (j := 2) (fun x : Int => decide (-50 ≤ x) && decide (x ≤ 50)) T.all (ci_tup ((cv_var 1 rfl).imp fun u H3 s3 e => by subst e; exact isW_tup.mp ((hw.m hS).m s3)) rt_int) (fun _ _ s => Same.ts s) (by rw [ok.len]; omega) ?_ sc_need_refills.nd
        (blkOk_by (own := [("refill", 2)]) (N := ["ground", "refills", "refill"]) (sc := defScope s_need_refills) (by decide +kernel)) (fun _ _ _ _ _ => pg_name (i := 2) sc_need_refills.nd rfl (Or.inl rfl)) (fun _ => rfl)) fun u H3 _ q => (q.trans (by rw [e]))))) rfl) fun H3 s3 => k _ H3 (hS.trans s3) rfl)
      intro s0 H0 C cl fp d x H' hd s4 hx
      have hx : x = .int d := hx
      subst hx
      exact CP.imp (cp_callI GF (d, -50, 50) (hr.mono (by decide)) (ca_v (cv_var 2 rfl) (ca_v (cv_neg (cv_glob (v := .int 50) rfl gW ⟨tk, rfl⟩)) (ca_v (cv_glob (v := .int 50) rfl gW ⟨tk, rfl⟩) ca_nil))) (fun vs H1 _ e => e)) fun v H1 _ e => e
/-- a ground, worths, refills -/
def IsGWR (C : Addr) (i : List (List Nat) × List Int × List Int) (v u x : V) (H : Hp) : Prop := IsG C H i.1 v ∧ IsW H i.2.1 u ∧ IsW H i.2.2 x ∧ WfG i.1 ∧ WOk i.1.length i.2.1 ∧ WOk i.1.length i.2.2
theorem IsGWR.m {C : Addr} {i : List (List Nat) × List Int × List Int} {v u x : V} {H H' : Hp} (h : IsGWR C i v u x H) (s : Same H H') : IsGWR C i v u x H' := ⟨h.1.m s, h.2.1.m s, h.2.2.1.m s, h.2.2.2⟩
def aGWR (C : Addr) (i : List (List Nat) × List Int × List Int) (vs : List V) (H : Hp) : Prop := ∃ v u x, vs = [v, u, x] ∧ IsGWR C i v u x H
abbrev PNeedB (P : Program) (w : World) (K : PySem.W.Frag) (mg : Str → Option Value) (base : Heap) : Prop := Pm P w K mg base "need_both" 4 ["ground", "worths", "refills"] (SpI (aGWR (CG K)) rNon)
theorem sc_need_both : FnScope ["ground", "worths", "refills"] ["ground", "worths", "refills"] (defScope s_need_both) := ⟨rfl, rfl, rfl, by decide +kernel, rfl, by decide +kernel, by decide +kernel⟩
theorem ok_need_both (GW : PNeedW P w K mg base) (GR : PNeedR P w K mg base) (D : Df K mg "need_both" s_need_both) : PNeedB P w K mg base := by
  refine D.pm sc_need_both (fun _ _ _ _ _ _ us hl => match us, hl with | [_, _, _], _ => rfl) (fun vs H Q E h => ?_) (fun f cdv A outer s H vs Q E hr h => ?_)
  · obtain ⟨i, ⟨v, u, x, rfl, _⟩, _⟩ := h; rfl
  · obtain ⟨⟨t, wt, rf⟩, ⟨v, u, x, rfl, h⟩, k⟩ := h
    refine ss_cons (s_exprC (cp_callI GW (t, wt) hr (ca_v (cv_var 0 rfl) (ca_v (cv_var 1 rfl) ca_nil)) (fun vs H1 s1 e => ⟨_, _, e, (h.m s1).1, (h.m s1).2.1, h.2.2.2.1, h.2.2.2.2.1⟩)) fun H1 s1 => ?_)
    refine ss_one (s_exprC (cp_callI GR (t, rf) hr (ca_v (cv_var 0 rfl) (ca_v (cv_var 2 rfl) ca_nil)) (fun vs H2 s2 e => ⟨_, _, e, (h.m (s1.trans s2)).1, (h.m (s1.trans s2)).2.2.1, h.2.2.2.1, h.2.2.2.2.2⟩)) fun H2 s2 => k _ H2 (s1.trans s2) rfl)
/-! ### need_small, need_plan -/
abbrev PNeedS (P : Program) (w : World) (K : PySem.W.Frag) (mg : Str → Option Value) (base : Heap) : Prop := Pm P w K mg base "need_small" 3 ["ground"] (SpI (fun t vs H => aG t (CG K) vs H ∧ t.length ≤ 5) rNon)
theorem sc_need_small : FnScope ["ground"] ["ground"] (defScope s_need_small) := ⟨rfl, rfl, rfl, by decide +kernel, rfl, by decide +kernel, by decide +kernel⟩
theorem ok_need_small (T : Tx K mg) (GN : PNeedG P w K mg base) (GL : LenG P w K mg base (CG K)) (D : Df K mg "need_small" s_need_small) : PNeedS P w K mg base := by
  refine D.pm sc_need_small (fun _ _ _ _ _ _ us hl => match us, hl with | [_], _ => rfl) (fun vs H Q E h => ?_) (fun f cdv A outer s H vs Q E hr h => ?_)
  · obtain ⟨i, ⟨⟨v, rfl, _⟩, _⟩, _⟩ := h; rfl
  · obtain ⟨t, ⟨⟨v, rfl, hg⟩, h5⟩, k⟩ := h
    obtain ⟨tk, gD⟩ := T.mostD
    refine ss_cons (s_exprC (cp_callI GN t (hr.mono (by decide)) (ca_one (cv_var 0 rfl)) (fun vs H1 s1 ⟨u, e, eu⟩ => ⟨u, e, by subst eu; exact hg.m s1⟩)) fun H1 s1 => ?_)
    refine ss_one (s_guard (CT.to (ct_gt (i := (t.length : Int)) (j := 5) (cv_lenG GL hr T.len ((cv_var 0 rfl).imp fun u H2 s2 e => by subst e; exact (hg.m s1).m s2) (by omega)) (cv_glob (v := .int 5) rfl gD ⟨tk, rfl⟩)) ?_) fun H2 s2 => k _ H2 (s1.trans s2) rfl)
    rw [decide_eq_false (by omega)]
def aPlan (C : Addr) (i : List (List Nat) × List Nat × List Nat) (vs : List V) (H : Hp) : Prop := ∃ v u x, vs = [v, u, x] ∧ IsG C H i.1 v ∧ IsL H i.2.1 u ∧ IsL H i.2.2 x ∧ WfG i.1 ∧ Pt.Plan i.1 (i.2.1, i.2.2)
abbrev PNeedP (P : Program) (w : World) (K : PySem.W.Frag) (mg : Str → Option Value) (base : Heap) : Prop := Pm P w K mg base "need_plan" 7 ["ground", "dug", "open_pit"] (SpI (aPlan (CG K)) rNon)
theorem sc_need_plan : FnScope ["ground", "dug", "open_pit"] ["ground", "dug", "open_pit"] (defScope s_need_plan) := ⟨rfl, rfl, rfl, by decide +kernel, rfl, by decide +kernel, by decide +kernel⟩
theorem ok_need_plan (GP : PNeedPit P w K mg base) (GL : PLies P w K mg base) (D : Df K mg "need_plan" s_need_plan) : PNeedP P w K mg base := by
  refine D.pm sc_need_plan (fun _ _ _ _ _ _ us hl => match us, hl with | [_, _, _], _ => rfl) (fun vs H Q E h => ?_) (fun f cdv A outer s H vs Q E hr h => ?_)
  · obtain ⟨i, ⟨v, u, x, rfl, _⟩, _⟩ := h; rfl
  · obtain ⟨⟨t, dg, op⟩, ⟨v, u, x, rfl, hg, hd, ho, wf, pl⟩, k⟩ := h
    have pl : Pt.Plan t (dg, op) := pl
    have wf : WfG t := wf
    have h10 := wf.le
    refine ss_cons (s_exprC (cp_callI GP (t, dg) hr (ca_v (cv_var 0 rfl) (ca_v (cv_var 1 rfl) ca_nil)) (fun vs H1 s1 e => ⟨_, _, e, hg.m s1, hd.m s1, wf, pl.dug⟩)) fun H1 s1 => ?_)
    refine ss_cons (s_exprC (cp_callI GP (t, op) hr (ca_v (cv_var 0 rfl) (ca_v (cv_var 2 rfl) ca_nil)) (fun vs H2 s2 e => ⟨_, _, e, hg.m (s1.trans s2), ho.m (s1.trans s2), wf, pl.opn⟩)) fun H2 s2 => ?_)
    have e : op.all (fun b => decide (b ∈ dg)) = true := by
      rw [List.all_eq_true]
      intro x hx
      simpa using pl.within x hx
    have hz : op.length ≤ 1000 := by have := pit_len pl.opn; have : op.length ≤ t.length := this; omega
    refine ss_one (s_guard (CT.to (ct_not (k := true) (ct_val (CP.imp (cp_callI GL (op, dg) (hr.mono (by decide)) (ca_v (cv_var 2 rfl) (ca_v (cv_var 1 rfl) ca_nil)) fun vs H3 s3 e => ⟨_, _, e, ho.m ((s1.trans s2).trans s3), hd.m ((s1.trans s2).trans s3), hz⟩) fun v H3 _ q => Eq.trans q (congrArg V.bl e)))) rfl) fun H3 s3 => k _ H3 ((s1.trans s2).trans s3) rfl)
end
end Pz
end
section
set_option Elab.async false
set_option linter.all false
set_option maxRecDepth 100000
set_option maxHeartbeats 4000000
namespace Pz
open PySem PySem.Spec PyProof.Rows L2
section
variable {X : Cx} {e : Expr} {σ : L2.St} {H : Hp} {p pos p1 pos1 p2 pos2 : Pos}
theorem cp_tupleEx {δ : Type} {R : Rel δ} {Z : List δ → Prop} (hm : X.mg "tuple" = none) (ha : CP X e σ H (fun v H1 => ∃ ds, IsLst R H1 ds v ∧ Z ds)) (rm : RM R) (hg : Gl X "tuple" := by rfl) (hs : Sg X e := by rfl) (hpl : (backTo pos (starEach [] X.env)).any (·.1) = false := by rfl) :
    CP X (.Call (.Name "tuple" p) [e] [] pos) σ H (fun v H1 => ∃ ds, IsTup R H1 ds v ∧ Z ds) :=
  cp_t1 call_tuple_of hm (by decide +kernel) ha (fun v H1 s1 ⟨ds, ⟨a, xs, e1, h1, p1⟩, z⟩ Q k => by
    subst e1
    exact ⟨a, xs, rfl, .inl ⟨SqL.of h1, fun l hl => k _ _ (same_new hl) ⟨ds, ⟨l, xs, rfl, upd_same, paired_rm rm (same_new hl) p1⟩, z⟩⟩⟩) hg (by decide) (by decide) hs hpl
/-- tuple(sorted(set(xs))) of blocks -/
theorem cp_tupSet {l : List Nat} (hm0 : X.mg "tuple" = none) (hm : X.mg "sorted" = none) (hm2 : X.mg "set" = none) (he : CP X e σ H (fun v H1 => ∃ a, v = .ref a ∧ (H1 a = some (.lst (nv l)) ∨ H1 a = some (.tup (nv l))))) (hz : l.length < 64) (hc : X.calm = true := by rfl)
    (hg : Gl X "sorted" := by rfl) (hg2 : Gl X "set" := by rfl) (hg0 : Gl X "tuple" := by rfl) (hs1 : Sg X e := by rfl) (hs2 : Sg X (.Call (.Name "set" p1) [e] [] pos1) := by rfl) (hs3 : Sg X (.Call (.Name "sorted" p) [.Call (.Name "set" p1) [e] [] pos1] [] pos) := by rfl)
    (hpl1 : (backTo pos1 (starEach [] X.env)).any (·.1) = false := by rfl) (hpl : (backTo pos (starEach [] X.env)).any (·.1) = false := by rfl) (hpl2 : (backTo pos2 (starEach [] X.env)).any (·.1) = false := by rfl) :
    CP X (.Call (.Name "tuple" p2) [.Call (.Name "sorted" p) [.Call (.Name "set" p1) [e] [] pos1] [] pos] [] pos2) σ H (fun v H1 => ∃ m, IsL H1 m v ∧ m.Pairwise (· < ·) ∧ ∀ x, x ∈ m ↔ x ∈ l) :=
  CP.imp (cp_tupleEx (R := RNat) (Z := fun m => m.Pairwise (· < ·) ∧ ∀ x, x ∈ m ↔ x ∈ l) hm0 (CP.imp (cp_sortedSet hm hm2 he hz hc hg hg2 hs1 hs2 hpl1 hpl) fun v H1 _ ⟨m, h1, h2, h3⟩ => ⟨m, h1.lst, h2, h3⟩) rt_nat.m hg0 hs3 hpl2) fun v H1 _ ⟨m, h1, h2, h3⟩ => ⟨m, isL_tup.mpr h1, h2, h3⟩
/-- a[i] of a list told by Z -/
theorem cp_ixEx {δ : Type} {R : Rel δ} {Z : List δ → Prop} {Z' : δ → Prop} {a b : Expr} {i : Int} (ha : CP X a σ H (fun v H1 => ∃ ds, Z ds ∧ IsLst R H1 ds v)) (hb : CV X b σ H (.int i)) (hd : ∀ ds, Z ds → ∃ d, atI ds i = some d ∧ Z' d) (rm : RM R) (hs : PlainIx b := by exact fun _ _ => rfl) :
    CP X (.Subscript a b pos) σ H (fun v H1 => ∃ d, Z' d ∧ R H1 d v) := fun H0 s0 Q q =>
  ⟨_, pe_ix ix_list re_pe re_pe hs, two ha hb (fun v H H' s h => by obtain ⟨ds, z, a, xs, e1, h1, p1⟩ := h; exact ⟨ds, z, a, xs, e1, s _ _ h1, paired_rm rm s p1⟩) s0 fun x y H1 s1 ⟨ds, z, a, xs, e1, h1, p1⟩ e2 => by
    subst e1 e2
    obtain ⟨d, hd, zd⟩ := hd ds z
    obtain ⟨j, g1, g2, _⟩ := atI_get hd
    obtain ⟨u, h2, h3⟩ := paired_getL p1 g2
    refine ⟨a, xs, i, u, rfl, rfl, SqL.of h1, ?_, q _ H1 s1 ⟨d, zd, h3⟩⟩
    unfold atI at hd ⊢
    rw [← paired_len p1]
    cases e : ixN ds.length i with
    | none => rw [e] at hd; cases hd
    | some j' =>
      have e3 := (ixN_seq e).1
      rw [g1] at e3
      cases e3
      exact h2⟩
theorem atI_last {δ : Type} {l : List δ} (h : 0 < l.length) : atI l (-1) = some l[l.length - 1] := by
  unfold atI
  have e : ixN l.length (-1) = some (l.length - 1) := by
    unfold ixN
    rw [if_neg (by omega)]
    first
      | rw [if_pos (by omega)]; congr 1; omega
      | (split <;> first | (congr 1; omega) | omega)
  rw [e]
  exact List.getElem?_eq_getElem (by omega)
end
end Pz
end
section
set_option Elab.async false
set_option linter.all false
set_option maxRecDepth 100000
set_option maxHeartbeats 4000000
namespace Pt
theorem asc_sum {b : Nat} : ∀ (l : List Nat) (a : Nat), a ≤ b → Asc l → (∀ x ∈ l, a ≤ x ∧ x < b) → 2 * (l.map fun x => x + 1).sum + a * (a + 1) ≤ b * (b + 1)
  | [], a, h, _, _ => by
    simp
    exact Nat.mul_le_mul h (Nat.succ_le_succ h)
  | x :: r, a, h, ha, hx => by
    have h1 := hx x (List.mem_cons_self ..)
    have ha' := List.pairwise_cons.mp ha
    have ih := asc_sum r (x + 1) h1.2 ha'.2 fun y hy => ⟨ha'.1 y hy, (hx y (List.mem_cons_of_mem _ hy)).2⟩
    rw [List.map_cons, List.sum_cons]
    have h2 : a * (a + 1) ≤ x * (x + 1) := Nat.mul_le_mul h1.1 (Nat.succ_le_succ h1.1)
    have h3 : (x + 1) * (x + 1 + 1) = x * (x + 1) + 2 * (x + 1) := by
      rw [Nat.mul_comm (x + 1) (x + 1 + 1), Nat.add_mul, Nat.add_mul]
      omega
    omega
theorem told_step {t : Tab} {cs : List Lot} {b : Nat} (hm : ∀ y, y < b → ∀ x, x ∈ cs.getD y [] ↔ Needs t y x) (tk : TabOk t) (x : Nat) : (x ∈ t.getD b [] ∨ ∃ y ∈ t.getD b [], x ∈ cs.getD y []) ↔ Needs t b x := by
  constructor
  · rintro (h | ⟨y, hy, h⟩)
    · exact .one h
    · exact .step hy ((hm y ((tk b).2 y hy) x).mp h)
  · intro h
    cases h with
    | one h => exact .inl h
    | step hy h => exact .inr ⟨_, hy, (hm _ ((tk b).2 _ hy) x).mpr h⟩
end Pt
namespace Pz
open PySem PySem.Spec PyProof.Rows L2
section
variable {P : Program} {w : World} {K : PySem.W.Frag} {mg : Str → Option Value} {base : Heap}
/-! ### Ground(covers) -/
def spInit (C : Addr) : Sp := fun vs H Q _ => ∃ (x dx : Addr) (v : V) (t : List (List Nat)), vs = [.ref x, v] ∧ H x = some (.ins C dx []) ∧ IsTup IsL H t v ∧ WfG t ∧ ∀ H', Same H H' → Q .non (L2.upd H' x (.ins C dx (putF "table" v [])))
abbrev PInit (P : Program) (w : World) (K : PySem.W.Frag) (mg : Str → Option Value) (base : Heap) : Prop := PmM P w K mg base (He.ma K (CG K) "__init__") 3 ["self", "covers"] (spInit (CG K))
theorem sc_G_init : FnScope ["self", "covers", "index", "value"] ["self", "covers"] (defScope s_G_init) := ⟨rfl, rfl, rfl, by decide +kernel, rfl, by decide +kernel, by decide +kernel⟩
theorem tyx_tup {H : Hp} {a : Addr} {xs : List V} (h : H a = some (.tup xs)) : TyX K H (.ref a) (.type "tuple") := .base (.tup h)
theorem ok_G_init (T : Tx K mg) (GC : PCover P w K mg base) (D : DfM K (CG K) "__init__" "Ground.__init__" s_G_init (He.ma K (CG K) "__init__")) : PInit P w K mg base := by
  refine D.pm sc_G_init (fun _ _ _ _ _ _ us hl => match us, hl with | [_, _], _ => rfl) (fun vs H Q E h => ?_) (fun cdv A outer s H vs Q E hr h => ?_)
  · obtain ⟨x, dx, v, t, rfl, _⟩ := h; rfl
  · obtain ⟨x, dx, v, t, rfl, hx, hv, wf, k⟩ := h
    obtain ⟨a, xs, rfl, ha, pr⟩ := hv
    obtain ⟨tk, gB⟩ := T.mostB
    have h10 := wf.le
    have h1 := wf.pos
    have hS : ∀ H1, Same H H1 → IsTup IsL H1 t (.ref a) := fun H1 s1 => ⟨a, xs, rfl, s1 _ _ ha, paired_rm rt_l.m s1 pr⟩
    refine ss_cons (s_guard (CT.to (CW.ct (cw_or (k := false) (l := false) (ct_not (k := true) (ct_val (cv_isiTy (u := "tuple") T.isi T.tuple (by decide +kernel) (cv_var 1 rfl) (mon_eq _) (fun v H1 s1 e => by subst e; exact tyx_tup (s1 _ _ ha)) (kit_ty (by decide +kernel))))) fun _ =>
      cw_or1 (CT.to (ct_not (ct_chain op_le op_le cv_int (cv_len (n := t.length) T.len (cv_var 1 rfl) fun u H2 s2 e => by subst e; exact (hS H2 s2).sized) (cv_glob (v := .int 10) rfl gB ⟨tk, rfl⟩))) ?_))) rfl) fun H2 s2 => ?_)
    · rw [decide_eq_true (by omega), decide_eq_true (by omega)]; rfl
    refine ss_cons (s_for (Kp := TS) (ds := enm t) (R := RPair RNat IsL) (ci_enumT T.enum ((cv_var 1 rfl).imp fun u H3 s3 e => by subst e; exact hS H3 (s2.trans s3)) rt_l) (fun H3 i σ' H' => Same H H' ∧ Same H3 H' ∧ ∃ y z, σ' = [some (.ref x), some (.ref a), y, z]) (fun H3 s3 => ⟨s2.trans s3, Same.refl _, none, none, rfl⟩) (fun H3 i σ' H' _ _ p => Same.ts p.2.1)
      (fun H3 i d u σ' H4 H' s3 hd p s4 r => ?_) (fun H3 σ' H' s3 p => ?_))
    · obtain ⟨p1, p2, y, z, rfl⟩ := p
      obtain ⟨T', x1, x2, e1, e2, e3, e4⟩ := r
      have e3 : x1 = .int (d.1 : Int) := e3
      subst e3
      have hdt := enm_mem (List.mem_of_getElem? hd)
      have hcov : t.getD d.1 [] = d.2 := by rw [List.getD, hdt]; rfl
      have hc := wf.ok d.1
      rw [hcov] at hc
      refine g_pair 2 3 e1 e2 (hN := sc_G_init.nd) ?_
      refine ss_one (s_guard (ct_not (k := true) (ct_val (CP.imp (cp_callI GC (d.2, d.1) hr (ca_v (cv_var 3 rfl) (ca_v (cv_var 2 rfl) ca_nil)) fun vs H5 s5 e => ⟨x2, e, e4.m s5, hc.1, ?_, hc.2⟩) fun v H5 _ e => e))) fun H5 s5 => ?_)
      · exact ⟨(p1.trans s4).trans s5, (p2.trans s4).trans s5, _, _, rfl⟩
      · have := asc_len hc.1 hc.2
        have hl : d.1 < t.length := by
          rcases Nat.lt_or_ge d.1 t.length with z | z
          · exact z
          · rw [List.getElem?_eq_none z] at hdt; cases hdt
        show d.2.length ≤ 1000
        omega
    · obtain ⟨p1, p2, y, z, rfl⟩ := p
      refine ss_one (s_fld (P := fun u _ => u = .ref a) (cv_var 1 rfl) (cv_var 0 rfl) (p1 _ _ hx) T.cG T.nT (by decide) (fun u H1 s5 e => ?_) (mon_eq _))
      subst e
      exact k H1 (p1.trans s5)
theorem isTup_m {H H' : Hp} {t : List (List Nat)} {v : V} (h : IsTup IsL H t v) (s : Same H H') : IsTup IsL H' t v := rt_t.m _ _ _ _ s h
/-- Ground(e) -/
theorem cp_mkG {X : Cx} {e : Expr} {σ : L2.St} {H : Hp} {p pos : Pos} {t : List (List Nat)} (T : Tx X.K X.mg) (G : PInit X.prog X.w X.K X.mg X.base) (hr : Room 4 X.A) (wf : WfG t) (ha : CP X e σ H (fun v H1 => IsTup IsL H1 t v)) (hg : Gl X "Ground" := by rfl) (hs : Sg X e := by rfl) (hpl : (backTo pos (starEach [] X.env)).any (·.1) = false := by rfl) :
    CP X (.Call (.Name "Ground" p) [e] [] pos) σ H (fun v H1 => IsG (CG X.K) H1 t v) := fun H1 s1 Q q =>
  re_make T.mkG G hr T.gG (ca_one (fun H2 s2 Q' q' => ha H2 (s1.trans s2) Q' q') hs) (fun vs H2 s2 ⟨u, eu, hu⟩ a dx h1 h2 h3 => by
    subst eu
    have sA : Same H2 (L2.upd (L2.upd H2 dx (.own a)) a (.ins (CG X.K) dx [])) := same_mut (same_new h2) h1
    refine ⟨a, dx, u, t, rfl, upd_same, isTup_m hu sA, wf, fun H' sH => ⟨rfl, ?_⟩⟩
    have sE : Same H2 (L2.upd H' a (.ins (CG X.K) dx (putF "table" u []))) := same_mut (sA.trans sH) h1
    exact q _ _ (s2.trans sE) ⟨a, dx, u, rfl, upd_same, isTup_m hu sE⟩) hg (by decide) hs hpl
end
end Pz
end
section
set_option Elab.async false
set_option linter.all false
set_option maxRecDepth 100000
set_option maxHeartbeats 4000000
namespace Pz
open PySem PySem.Spec PyProof.Rows L2
section
variable {P : Program} {w : World} {K : PySem.W.Frag} {mg : Str → Option Value} {base : Heap}
def aGt (C : Addr) (t : List (List Nat)) (vs : List V) (H : Hp) : Prop := ∃ v, vs = [v] ∧ IsG C H t v ∧ WfG t
/-! ### covers_of -/
def rTold (t : List (List Nat)) (v : V) (H : Hp) : Prop := ∃ cs, Pt.Told t cs ∧ (∀ c ∈ cs, Pt.Asc c ∧ ∀ x ∈ c, x < t.length) ∧ IsLst IsL H cs v
abbrev PCovers (P : Program) (w : World) (K : PySem.W.Frag) (mg : Str → Option Value) (base : Heap) : Prop := Pm P w K mg base "covers_of" 1 ["ground"] (SpI (aGt (CG K)) rTold)
theorem sc_covers_of : FnScope ["ground", "found", "firsts", "some", "one"] ["ground"] (defScope s_covers_of) := ⟨rfl, rfl, rfl, by decide +kernel, rfl, by decide +kernel, by decide +kernel⟩
theorem isTup_nv {H : Hp} {l : List Nat} {v : V} (h : IsTup RNat H l v) : ∃ a, v = .ref a ∧ H a = some (.tup (nv l)) := isL_tup.mpr h
theorem nat_nv {H : Hp} : ∀ {l : List Nat} {xs : List V}, Paired (RNat H) l xs → xs = nv l := fun p => map_paired (f := fun n : Nat => V.int (n : Int)) p
theorem getD_mem {l : List (List Nat)} {i : Nat} (h : i < l.length) : l.getD i [] ∈ l := by rw [List.getD, List.getElem?_eq_getElem h]; exact List.getElem_mem h
theorem ok_covers_of (T : Tx K mg) (D : Df K mg "covers_of" s_covers_of) : PCovers P w K mg base := by
  refine D.pm sc_covers_of (fun _ _ _ _ _ _ us hl => match us, hl with | [_], _ => rfl) (fun vs H Q E h => ?_) (fun f cdv A outer s H vs Q E hr h => ?_)
  · obtain ⟨i, ⟨v, rfl, _⟩, _⟩ := h; rfl
  · obtain ⟨t, ⟨v, rfl, hg, wf⟩, k⟩ := h
    have h10 := wf.le
    have tk := wf.ok
    refine ss_cons (s_set 1 (P := fun u H1 => ∃ F, u = .ref F ∧ H F = none ∧ H1 F = some (.lst [])) (CP.imp (cp_lst ca_nil (fun _ _ _ _ e => e) (fun vs _ e => by rw [e]; decide)) fun u H1 _ ⟨F, vs, e1, e2, e3, e4⟩ => ⟨F, e1, e2, by rw [e3, e4]⟩) (fun u H1 s1 ⟨F, eu, hF0, hF⟩ => ?_) (hN := sc_covers_of.nd))
    subst eu
    refine ss_cons (s_for (Kp := TS) (ds := t) (R := IsL) (ci_tup (CP.imp (cp_table ((cv_var 0 rfl).imp fun u H2 s2 e => by subst e; exact (hg.m s1).m s2) T.cG T.nT) fun _ _ _ h => h) rt_l)
      (fun H2 i σ' H' => ∃ fi sm on xs cs, σ' = [some v, some (.ref F), fi, sm, on] ∧ Same H H' ∧ TS H2 H' ∧ H' F = some (.lst xs) ∧ Paired (IsL H') cs xs ∧ cs.length = i ∧ (∀ c ∈ cs, Pt.Asc c ∧ ∀ x ∈ c, x < t.length) ∧ (∀ (c : List Nat) (j : Nat), cs[j]? = some c → ∀ x ∈ c, x < j) ∧ ∀ b, b < i → ∀ x, x ∈ cs.getD b [] ↔ Pt.Needs t b x)
      (fun H2 s2 => ⟨none, none, none, [], [], rfl, s1.trans s2, fun _ _ h => h, s2 _ _ hF, .nil, rfl, (fun c hc => nomatch hc), (fun c j h => nomatch (show none = some c from h)), fun b hb => absurd hb (Nat.not_lt_zero _)⟩) (fun H2 i σ' H' _ _ ⟨_, _, _, _, _, _, _, p, _⟩ => p)
      (fun H2 i d u σ' H3 H' s2 hd p s3 r => ?_) (fun H2 σ' H' s2 p => ?_))
    · obtain ⟨fi, sm, on, xs, cs, rfl, p1, p2, p3, p4, p5, p6, p6b, p7⟩ := p
      have hi : i < t.length := by
        rcases Nat.lt_or_ge i t.length with z | z
        · exact z
        · rw [List.getElem?_eq_none z] at hd; cases hd
      have edt : t.getD i [] = d := by rw [List.getD, hd]; rfl
      have hdk := tk i
      rw [edt] at hdk
      have hdl : d.length ≤ i := asc_len hdk.1 hdk.2
      refine ⟨_, pg_name (i := 2) sc_covers_of.nd rfl (Or.inl rfl), ?_⟩
      show RSs _ _ _ [some v, some (.ref F), some u, sm, on] H'
      have p1' := p1.trans s3
      refine ss_cons (s_set 3 (P := fun q H4 => NewL RNat H' d q H4) (cp_listOf T.list ((cv_var 2 rfl).imp fun q H4 s4 e => by subst e; exact isL_tup.mp (r.m s4)) rt_nat.m) (fun q H4 s4 ⟨S, ys, eq, hS0, hS, pr⟩ => ?_) (hN := sc_covers_of.nd))
      subst eq
      have eys := nat_nv pr
      subst eys
      have hFS : F ≠ S := fun e => by
        have := s3 _ _ p3
        rw [e, hS0] at this; cases this
      have hS0H : H S = none := p1'.free hS0
      refine ss_cons (s_for (Kp := TS) (ds := d) (R := RNat) (ci_tup ((cv_var 2 rfl).imp fun q H5 s5 e => by subst e; exact isL_tup.mp ((r.m s4).m s5)) rt_nat)
        (fun H5 j σ'' H'' => ∃ on', σ'' = [some v, some (.ref F), some u, some (.ref S), on'] ∧ Same H' H'' ∧ TS H5 H'' ∧ H'' S = some (.lst (nv (d ++ (d.take j).flatMap fun y => cs.getD y []))))
        (fun H5 s5 => ⟨on, rfl, s4.trans s5, fun _ _ h => h, by rw [List.take_zero, List.flatMap_nil, List.append_nil]; exact s5 _ _ hS⟩) (fun H5 j σ'' H'' _ _ ⟨_, _, _, p, _⟩ => p)
        (fun H5 j e q σ'' H6 H7 s5 he p s6 r' => ?_) (fun H5 σ'' H6 s5 p => ?_))
      · obtain ⟨on', rfl, q1, q2, q3⟩ := p
        have r' : q = .int (e : Int) := r'
        subst r'
        have hed : e ∈ d := List.mem_of_getElem? he
        have hei : e < i := hdk.2 e hed
        refine ⟨_, pg_name (i := 4) sc_covers_of.nd rfl (Or.inl rfl), ?_⟩
        show RSs _ _ _ [some v, some (.ref F), some u, some (.ref S), some (.int (e : Int))] H7
        have sF : Same H' H7 := q1.trans s6
        have hdj : (d.take j).length ≤ 10 := by rw [List.length_take]; omega
        refine ss_one (s_extT (zs := nv (cs.getD e [])) (cv_var 3 rfl) (s6 _ _ q3) (CP.imp (cp_ixL (R := IsL) (ds := cs) (d := cs.getD e []) (i := (e : Int)) ((cv_var 1 rfl).imp fun z H8 s8 ez => by subst ez; exact ⟨F, xs, rfl, s8 _ _ (sF _ _ (s3 _ _ p3)), paired_rm rt_l.m ((s3.trans sF).trans s8) p4⟩) (cv_var 4 rfl) (at_getD (by omega)) rt_l.m) fun z H8 s8 h => h) ?_ (fun H8 s8 h8 => ?_))
        · have h1 : (cs.getD e []).length ≤ 10 := by
            have := p6 _ (getD_mem (show e < cs.length by omega))
            have := asc_len this.1 this.2
            omega
          have h2 : ((d.take j).flatMap fun y => cs.getD y []).length ≤ 10 * 10 := by
            rw [List.length_flatMap]
            have : ∀ (l : List Nat), (∀ x ∈ l, x < i) → (l.map fun y => (cs.getD y []).length).sum ≤ 10 * l.length := fun l => by
              induction l with
              | nil => simp
              | cons y l ih =>
                intro hl
                rw [List.map_cons, List.sum_cons, List.length_cons]
                have := ih fun x hx => hl x (List.mem_cons_of_mem _ hx)
                have hy := hl y (List.mem_cons_self ..)
                have := p6 _ (getD_mem (show y < cs.length by omega))
                have := asc_len this.1 this.2
                omega
            have := this (d.take j) fun x hx => hdk.2 x (List.mem_of_mem_take hx)
            omega
          simp only [List.length_map, List.length_append]
          omega
        · have hS1 : H7 S = _ := s6 _ _ q3
          refine ⟨_, rfl, same_mut (sF.trans s8) hS0, TS.trans (TS.trans q2 (Pz.Same.ts (s6.trans s8))) (ts_upd h8 fun xs q => by cases q), ?_⟩
          rw [upd_same, List.take_add_one, he]
          simp only [nv, List.flatMap_append, Option.toList, List.flatMap_cons, List.flatMap_nil, List.append_nil, List.map_append, List.append_assoc]
      · obtain ⟨on', rfl, q1, q2, q3⟩ := p
        rw [List.take_length] at q3
        have q3' : H6 F = some (.lst xs) := q1 _ _ (s3 _ _ p3)
        have hsum : (d ++ d.flatMap fun y => cs.getD y []).length < 64 := by
          rw [List.length_append, List.length_flatMap]
          have h1 := Pt.asc_sum (b := i) d 0 (Nat.zero_le _) hdk.1 fun x hx => ⟨Nat.zero_le _, hdk.2 x hx⟩
          have h2 : ∀ (l : List Nat), (∀ x ∈ l, x < i) → l.length + (l.map fun y => (cs.getD y []).length).sum ≤ (l.map fun x => x + 1).sum := fun l => by
            induction l with
            | nil => simp
            | cons y l ih =>
              intro hl
              rw [List.map_cons, List.sum_cons, List.length_cons, List.map_cons, List.sum_cons]
              have := ih fun x hx => hl x (List.mem_cons_of_mem _ hx)
              have hy := hl y (List.mem_cons_self ..)
              have hyc : y < cs.length := by omega
              have hg' : cs[y]? = some (cs.getD y []) := by rw [List.getD, List.getElem?_eq_getElem hyc]; rfl
              have := asc_len (p6 _ (getD_mem hyc)).1 (p6b _ y hg')
              omega
          have h2 := h2 d hdk.2
          have h3 : i * (i + 1) ≤ 9 * 10 := Nat.mul_le_mul (by omega) (by omega)
          omega
        refine ss_one (s_append (P := fun q H7 => ∃ m, IsL H7 m q ∧ m.Pairwise (· < ·) ∧ ∀ x, x ∈ m ↔ x ∈ d ++ d.flatMap fun y => cs.getD y []) (cv_var 1 rfl) q3' (by have := paired_len p4; omega)
          (cp_tupSet T.tuple T.sorted T.set ((cv_var 3 rfl).imp fun z H7 s7 ez => ⟨S, ez, .inl (s7 _ _ q3)⟩) hsum) (fun q H7 s7 ⟨m, hm, ha, hx⟩ hF7 => ?_))
        have sAll : Same H' H7 := q1.trans s7
        have tS : TS H7 (L2.upd H7 F (.lst (xs ++ [q]))) := ts_upd hF7 fun xs q => by cases q
        have mem : ∀ x, x ∈ m ↔ Pt.Needs t i x := fun x => by
          rw [hx, ← Pt.told_step (cs := cs) p7 tk x, edt, List.mem_append, List.mem_flatMap]
        have hlt : ∀ x ∈ m, x < i := fun x hxm => ((mem x).mp hxm).lt tk
        refine ⟨_, _, _, xs ++ [q], cs ++ [m], rfl, same_mut (p1'.trans sAll) hF0, TS.trans (TS.trans p2 (TS.trans (Pz.Same.ts s3) (Pz.Same.ts sAll))) tS, upd_same, paired_snoc (paired_rt rt_l (TS.trans (Pz.Same.ts (s3.trans sAll)) tS) p4) (rt_l _ _ _ _ tS hm), by rw [List.length_append, p5]; rfl, fun c hc => ?_, fun c j hc => ?_, fun b hb x => ?_⟩
        · rcases List.mem_append.mp hc with hc | hc
          · exact p6 c hc
          · rw [List.mem_singleton.mp hc]
            exact ⟨ha, fun x hxm => by have := hlt x hxm; omega⟩
        · rcases Nat.lt_or_ge j cs.length with z | z
          · rw [List.getElem?_append_left z] at hc
            exact p6b c j hc
          · rw [List.getElem?_append_right z] at hc
            have ej : j - cs.length = 0 := by
              rcases Nat.eq_zero_or_pos (j - cs.length) with h | h
              · exact h
              · rw [List.getElem?_eq_none (show [m].length ≤ j - cs.length from h)] at hc; cases hc
            rw [ej] at hc
            have : m = c := Option.some.inj hc
            rw [← this]
            intro x hxm
            have := hlt x hxm
            omega
        · rcases Nat.lt_or_ge b i with z | z
          · rw [List.getD, List.getElem?_append_left (by omega)]
            exact p7 b z x
          · have eb : b = i := by omega
            subst eb
            rw [List.getD, List.getElem?_append_right (by omega), p5, Nat.sub_self]
            exact mem x
    · obtain ⟨fi, sm, on, xs, cs, rfl, p1, p2, p3, p4, p5, p6, p6b, p7⟩ := p
      exact ss_one (s_ret (cv_var 1 rfl) fun q H5 s5 e => k q H5 (p1.trans s5) ⟨cs, ⟨p5, p7⟩, p6, F, xs, by rw [e], s5 _ _ p3, paired_rm rt_l.m s5 p4⟩)
/-! ### sized, pits_of -/
abbrev PSized (P : Program) (w : World) (K : PySem.W.Frag) (mg : Str → Option Value) (base : Heap) : Prop := Pm P w K mg base "sized" 1 ["lot"] (SpI aSized rSized)
theorem sc_sized : FnScope ["lot"] ["lot"] (defScope s_sized) := ⟨rfl, rfl, rfl, by decide +kernel, rfl, by decide +kernel, by decide +kernel⟩
theorem ok_sized (T : Tx K mg) (D : Df K mg "sized" s_sized) : PSized P w K mg base := by
  refine D.pm sc_sized (fun _ _ _ _ _ _ us hl => match us, hl with | [_], _ => rfl) (fun vs H Q E h => ?_) (fun f cdv A outer s H vs Q E hr h => ?_)
  · obtain ⟨i, ⟨v, rfl, _⟩, _⟩ := h; rfl
  · obtain ⟨l, ⟨v, rfl, hl, hz⟩, k⟩ := h
    refine ss_one (s_ret (cp_tup (ca_v (v := .int (l.length : Int)) (cv_len T.len (cv_var 0 rfl) fun u H1 s1 e => by subst e; exact (isL_tup.mp (hl.m s1)).sized) (ca_v (cv_var 0 rfl) ca_nil)) (fun vs H1 H2 _ e => e) (fun vs H1 e => by rw [e]; simp)) fun u H1 s1 ⟨t, vs, e1, e2, e3⟩ => k u H1 s1 ⟨t, v, e1, by rw [e2, e3], hl.m s1⟩)
def rPits (t : List (List Nat)) (v : V) (H : Hp) : Prop := ∃ ps, Pt.IsPits t ps ∧ IsLst IsL H ps v ∧ ps.length ≤ 1024
abbrev PPits (P : Program) (w : World) (K : PySem.W.Frag) (mg : Str → Option Value) (base : Heap) : Prop := Pm P w K mg base "pits_of" 4 ["ground"] (SpI (aGt (CG K)) rPits)
theorem sc_pits_of : FnScope ["ground", "found", "block", "firsts", "lot", "one"] ["ground"] (defScope s_pits_of) := ⟨rfl, rfl, rfl, by decide +kernel, rfl, by decide +kernel, by decide +kernel⟩
theorem raw_lots {t : List (List Nat)} (tk : Pt.TabOk t) {n : Nat} (hn : n ≤ 10) {l : List Nat} (h : l ∈ Pt.pitsRaw t n) : l.length ≤ 10 := by
  have := (Pt.raw_mem tk n l).mp h
  have := asc_len this.1 fun x hx => (this.2 x hx).1
  omega
theorem raw_1024 {t : List (List Nat)} {n : Nat} (hn : n ≤ 10) : (Pt.pitsRaw t n).length ≤ 1024 := Nat.le_trans (Pt.raw_len t n) (Nat.le_trans (Nat.pow_le_pow_right (by decide) hn) (by decide))
theorem ok_pits_of (T : Tx K mg) (GL : LenG P w K mg base (CG K)) (GS : PSized P w K mg base) (D : Df K mg "pits_of" s_pits_of) : PPits P w K mg base := by
  refine D.pm sc_pits_of (fun _ _ _ _ _ _ us hl => match us, hl with | [_], _ => rfl) (fun vs H Q E h => ?_) (fun f cdv A outer s H vs Q E hr h => ?_)
  · obtain ⟨i, ⟨v, rfl, _⟩, _⟩ := h; rfl
  · obtain ⟨t, ⟨v, rfl, hg, wf⟩, k⟩ := h
    have h10 := wf.le
    have tk := wf.ok
    refine ss_cons (s_set 1 (P := fun u H1 => IsLst IsL H1 [[]] u) (CP.imp (cp_lst (A := fun vs H1 => ∃ u, vs = [u] ∧ IsL H1 [] u) (CA.imp (ca_one (cp_tup ca_nil (fun _ _ _ _ e => e) (fun vs _ e => by rw [e]; decide))) fun vs H1 _ ⟨u, e, t', us, e1, e2, e3⟩ => ⟨u, e, t', e1, by rw [e2, e3]; rfl⟩) (fun vs H1 H2 s ⟨u, e, h⟩ => ⟨u, e, h.m s⟩) (fun vs H1 ⟨u, e, h⟩ => by rw [e]; show 1 ≤ 1000; decide))
      fun u H1 _ ⟨a, vs, e1, _, e3, x, e4, h⟩ => ⟨a, vs, e1, e3, by rw [e4]; exact .cons h .nil⟩) (fun u H1 s1 hu => ?_) (hN := sc_pits_of.nd))
    refine ss_cons (s_for (Kp := fun _ _ => True) (ds := List.range t.length) (R := RNat) (ci_range1 (n := t.length) rfl T.range (cv_lenG GL (hr.mono (by decide)) T.len ((cv_var 0 rfl).imp fun z H2 s2 e => by subst e; exact (hg.m s1).m s2) (by omega)) (by omega))
      (fun H2 i σ' H' => ∃ fv bl fi, σ' = [some v, some fv, bl, fi, none, none] ∧ Same H H' ∧ IsLst IsL H' (Pt.pitsRaw t i) fv)
      (fun H2 s2 => ⟨u, none, none, rfl, s1.trans s2, rm_lst rt_l.m _ _ _ _ s2 hu⟩) (fun _ _ _ _ _ _ _ => trivial) (fun H2 i d x σ' H3 H' s2 hd p s3 r => ?_) (fun H2 σ' H' s2 p => ?_))
    · obtain ⟨fv, bl, fi, rfl, p1, p2⟩ := p
      have hi : i < t.length := by
        rcases Nat.lt_or_ge i t.length with z | z
        · exact z
        · rw [List.getElem?_eq_none (by rw [List.length_range]; exact z)] at hd; cases hd
      rw [List.getElem?_range hi] at hd
      have ed : i = d := Option.some.inj hd
      subst ed
      have r : x = .int (i : Int) := r
      subst r
      have p1' := p1.trans s3
      have p2' : IsLst IsL H' (Pt.pitsRaw t i) fv := rm_lst rt_l.m _ _ _ _ s3 p2
      have hcv := cover_len tk i
      refine ⟨_, pg_name (i := 2) sc_pits_of.nd rfl (Or.inr rfl), ?_⟩
      show RSs _ _ _ [some v, some fv, some (.int (i : Int)), fi, none, none] H'
      refine ss_cons (s_set 3 (P := fun q H4 => IsL H4 (t.getD i []) q) (cp_ixT (i := (i : Int)) (cp_table ((cv_var 0 rfl).imp fun z H4 s4 e => by subst e; exact (hg.m p1').m s4) T.cG T.nT) (cv_var 2 rfl) (at_getD hi) rt_l.m) (fun fq H4 s4 hfq => ?_) (hN := sc_pits_of.nd))
      have hr1 : (Pt.pitsRaw t i).length ≤ 1024 := raw_1024 (by omega)
      refine ss_one (s_set 1 (P := fun q H5 => IsLst IsL H5 (Pt.pitsRaw t (i + 1)) q) (CP.imp (cp_catL (R := IsL) (ds := Pt.pitsRaw t i) (es' := ((Pt.pitsRaw t i).filter fun l => (t.getD i []).all fun c => decide (c ∈ l)).map fun l => l ++ [i]) rt_l.m ((cv_var 1 rfl).imp fun z H5 s5 e => by subst e; exact rm_lst rt_l.m _ _ _ _ s5 (rm_lst rt_l.m _ _ _ _ s4 p2'))
        (CP.imp (cp_lc1 [("lot", 4)] (j := 4) (fun l : List Nat => (t.getD i []).all fun c => decide (c ∈ l)) (fun l : List Nat => l ++ [i]) IsL
          (ci_list ((cv_var 1 rfl).imp fun z H5 s5 e => by subst e; exact rm_lst rt_l.m _ _ _ _ s5 (rm_lst rt_l.m _ _ _ _ s4 p2')) rt_l.m) (fun _ _ s => s) rt_l (by omega) ?_ rfl sc_pits_of.nd
          (blkOk_by (own := [("lot", 4)]) (N := ["ground", "found", "block", "firsts", "lot", "one"]) (sc := defScope s_pits_of) (by decide +kernel)) (fun _ _ _ _ _ => pg_name (i := 4) sc_pits_of.nd rfl (Or.inr rfl)) (fun _ => rfl)) fun z H5 _ h => lst_of h) ?_) fun z H5 _ h => h.lst) (fun q H5 s5 hq => ?_) (hN := sc_pits_of.nd))
      · intro s0 H0 C cl fp l y H5 hl s5 hy
        have hy : IsL H5 l y := hy
        have hll := raw_lots tk (show i ≤ 10 by omega) hl
        refine ⟨cts_one (ct_val (cv_allOver [("one", 5)] (j := 5) (fun c : Nat => decide (c ∈ l)) T.all (ci_tup ((cv_var 3 rfl).imp fun z H6 s6 e => by subst e; exact isL_tup.mp ((hfq.m s5).m s6)) rt_nat) (fun _ _ s => Same.ts s) (by omega) ?_ sc_pits_of.nd
          (blkOk_by (own := [("one", 5)]) (N := ["ground", "found", "block", "firsts", "lot", "one"]) (sc := { kind := .function, names := [(".0", .local), ("lot", .cell), ("all", .globalImplicit), ("block", .cell), ("firsts", .cell)], isGenerator := false, isCoroutine := false }) (by decide +kernel)) (fun _ _ _ _ _ => pg_name (i := 5) sc_pits_of.nd rfl (Or.inl rfl)) (fun _ => rfl))), fun _ => ?_⟩
        · intro s0' H0' C' cl' fp' c x' H6 hc s6 hx'
          have hx' : x' = .int (c : Int) := hx'
          subst hx'
          exact cv_in (x := c) (l := l) (cv_var 5 rfl) ((cv_var 4 rfl).imp fun z H7 s7 e => by subst e; exact (hy.m s6).m s7)
        · exact CP.imp (cp_starTup (R := RNat) (ds := l) (d := i) rt_nat.m ((cv_var 4 rfl).imp fun z H6 s6 e => by subst e; exact isL_tup.mp (hy.m s6)) ((cv_var 2 rfl).imp fun z H6 _ e => e) (by omega)) fun z H6 _ h => isL_tup.mpr h
      · have h1 := List.length_filter_le (fun l => (t.getD i []).all fun c => decide (c ∈ l)) (Pt.pitsRaw t i)
        rw [List.length_map]
        omega
      · exact ⟨q, _, _, rfl, (p1'.trans s4).trans s5, hq⟩
    · obtain ⟨fv, bl, fi, rfl, p1, p2⟩ := p
      rw [List.length_range] at p2
      refine ss_one (s_ret (cp_sortKey GS hr T.sorted ((cv_var 1 rfl).imp fun z H5 s5 e => by subst e; exact rm_lst rt_l.m _ _ _ _ s5 p2) (fun l hl => by have := raw_lots tk h10 hl; omega) (by have := raw_1024 (t := t) h10; omega)) fun q H5 s5 h => k q H5 (p1.trans s5) ⟨_, Pt.isPits_of tk (List.mergeSort_perm _ _) (sortKey_ord _), h.lst, by rw [List.length_mergeSort]; exact raw_1024 h10⟩)
end
end Pz
end
section
set_option Elab.async false
set_option linter.all false
set_option maxRecDepth 100000
set_option maxHeartbeats 4000000
namespace Pz
open PySem PySem.Spec PyProof.Rows L2
section
variable {P : Program} {w : World} {K : PySem.W.Frag} {mg : Str → Option Value} {base : Heap}
/-! ### greatest_of -/
def aGr (i : List Int × List (List Nat)) (vs : List V) (H : Hp) : Prop := ∃ v u, vs = [v, u] ∧ IsW H i.1 v ∧ IsLst IsL H i.2 u ∧ i.2.length ≤ 10000 ∧ 0 < i.2.length ∧ ∀ l ∈ i.2, l.length ≤ 1000 ∧ ∀ b ∈ l, b < i.1.length
def rGr (i : List Int × List (List Nat)) (v : V) (_ : Hp) : Prop := ∃ m, v = .int m ∧ (∃ l ∈ i.2, Pt.wsum i.1 l = m) ∧ ∀ l ∈ i.2, Pt.wsum i.1 l ≤ m
abbrev PGreat (P : Program) (w : World) (K : PySem.W.Frag) (mg : Str → Option Value) (base : Heap) : Prop := Pm P w K mg base "greatest_of" 2 ["worths", "some"] (SpI aGr rGr)
theorem sc_greatest_of : FnScope ["worths", "some", "pit"] ["worths", "some"] (defScope s_greatest_of) := ⟨rfl, rfl, rfl, by decide +kernel, rfl, by decide +kernel, by decide +kernel⟩
theorem ok_greatest_of (T : Tx K mg) (GS : PSum P w K mg base) (D : Df K mg "greatest_of" s_greatest_of) : PGreat P w K mg base := by
  refine D.pm sc_greatest_of (fun _ _ _ _ _ _ us hl => match us, hl with | [_, _], _ => rfl) (fun vs H Q E h => ?_) (fun f cdv A outer s H vs Q E hr h => ?_)
  · obtain ⟨i, ⟨v, u, rfl, _⟩, _⟩ := h; rfl
  · obtain ⟨⟨wt, ps⟩, ⟨v, u, rfl, hw, hu, hz, hn, hp⟩, k⟩ := h
    refine ss_one (s_ret (cp_max T.max (ns := (ps.filter fun _ => true).map (Pt.wsum wt)) (lc_new (cp_lc1 [("pit", 2)] (j := 2) (fun _ => true) (Pt.wsum wt) RInt
      (ci_list ((cv_var 1 rfl).imp fun z H1 s1 e => by subst e; exact rm_lst rt_l.m _ _ _ _ s1 hu) rt_l.m) (fun _ _ s => s) rt_int (Nat.le_trans hz (by decide)) ?_ rfl sc_greatest_of.nd
      (blkOk_by (own := [("pit", 2)]) (N := ["worths", "some", "pit"]) (sc := defScope s_greatest_of) (by decide +kernel)) (fun _ _ _ _ _ => pg_name (i := 2) sc_greatest_of.nd rfl (Or.inl rfl)) (fun _ => rfl))) (by rw [map_filter_true, List.length_map]; exact hn)) fun z H1 s1 ⟨m, e, h1, h2⟩ => k z H1 s1 ⟨m, e, ?_, ?_⟩)
    · intro s0 H0 C cl fp l x H' hl s1 hx
      exact ⟨cts_nil, fun _ => CP.imp (cp_callI GS (wt, l) hr (ca_v (cv_var 0 rfl) (ca_v (cv_var 2 rfl) ca_nil)) fun vs H2 s2 e => ⟨_, _, e, (hw.m s1).m s2, IsL.m hx s2, hp l hl⟩) fun z H2 _ e => e⟩
    · rw [map_filter_true] at h1
      obtain ⟨l, h3, h4⟩ := List.mem_map.mp h1
      exact ⟨l, h3, h4⟩
    · intro l hl
      rw [map_filter_true] at h2
      exact h2 _ (List.mem_map.mpr ⟨l, hl, rfl⟩)
/-! ### best_pits -/
def rBests (i : List (List Nat) × List Int) (v : V) (H : Hp) : Prop := ∃ bs, Pt.IsBest i.1 i.2 bs ∧ IsLst IsL H bs v
theorem aGW_gt {C : Addr} {i : List (List Nat) × List Int} {v : V} {H : Hp} (h1 : IsG C H i.1 v) (h2 : WfG i.1) : aGt C i.1 [v] H := ⟨v, rfl, h1, h2⟩
theorem pits_gr {t : List (List Nat)} {wt : List Int} {ps : List (List Nat)} (wf : WfG t) (hw : WOk t.length wt) (h : Pt.IsPits t ps) : ∀ l ∈ ps, l.length ≤ 1000 ∧ ∀ b ∈ l, b < wt.length := fun l hl => by
  have hp := (h.mem l).mp hl
  have := pit_len hp
  have := wf.le
  exact ⟨by omega, fun b hb => by rw [hw.len]; exact hp.lt b hb⟩
theorem pits_pos {t : List (List Nat)} {ps : List (List Nat)} (h : Pt.IsPits t ps) : 0 < ps.length := List.length_pos_of_mem ((h.mem []).mpr ⟨List.Pairwise.nil, fun b hb => nomatch hb⟩)
abbrev PBests (P : Program) (w : World) (K : PySem.W.Frag) (mg : Str → Option Value) (base : Heap) : Prop := Pm P w K mg base "best_pits" 5 ["ground", "worths"] (SpI (aGW (CG K)) rBests)
theorem sc_best_pits : FnScope ["ground", "worths", "some", "most", "pit"] ["ground", "worths"] (defScope s_best_pits) := ⟨rfl, rfl, rfl, by decide +kernel, rfl, by decide +kernel, by decide +kernel⟩
theorem ok_best_pits (GP : PPits P w K mg base) (GG : PGreat P w K mg base) (GS : PSum P w K mg base) (D : Df K mg "best_pits" s_best_pits) : PBests P w K mg base := by
  refine D.pm sc_best_pits (fun _ _ _ _ _ _ us hl => match us, hl with | [_, _], _ => rfl) (fun vs H Q E h => ?_) (fun f cdv A outer s H vs Q E hr h => ?_)
  · obtain ⟨i, ⟨v, u, rfl, _⟩, _⟩ := h; rfl
  · obtain ⟨⟨t, wt⟩, ⟨v, u, rfl, hg, hw, wf, ok⟩, k⟩ := h
    have ok : WOk t.length wt := ok
    have wf : WfG t := wf
    refine ss_cons (s_set 2 (P := fun z H1 => rPits t z H1) (CP.imp (cp_callI GP t hr (ca_one (cv_var 0 rfl)) fun vs H1 s1 ⟨y, e, ey⟩ => ⟨y, e, by subst ey; exact hg.m s1, wf⟩) fun z H1 _ h => h) (fun z H1 s1 ⟨ps, hp, hl, hz⟩ => ?_) (hN := sc_best_pits.nd))
    have hgr := pits_gr wf ok hp
    refine ss_cons (s_set 3 (P := fun y H2 => rGr (wt, ps) y H2) (CP.imp (cp_callI GG (wt, ps) (hr.mono (by decide)) (ca_v (cv_var 1 rfl) (ca_v (cv_var 2 rfl) ca_nil)) fun vs H2 s2 e => ⟨_, _, e, (hw.m s1).m s2, rm_lst rt_l.m _ _ _ _ s2 hl, (Nat.le_trans hz (by decide) : ps.length ≤ 10000), pits_pos hp, hgr⟩) fun y H2 _ h => h) (fun y H2 s2 ⟨M, ey, h1, h2⟩ => ?_) (hN := sc_best_pits.nd))
    subst ey
    refine ss_one (s_ret (CP.imp (cp_lc1 [("pit", 4)] (j := 4) (fun l : List Nat => decide (Pt.wsum wt l = M)) (fun l : List Nat => l) IsL
      (ci_list ((cv_var 2 rfl).imp fun z H3 s3 e => by subst e; exact rm_lst rt_l.m _ _ _ _ s3 (rm_lst rt_l.m _ _ _ _ s2 hl)) rt_l.m) (fun _ _ s => s) rt_l (Nat.le_trans hz (by decide)) ?_ rfl sc_best_pits.nd
      (blkOk_by (own := [("pit", 4)]) (N := ["ground", "worths", "some", "most", "pit"]) (sc := defScope s_best_pits) (by decide +kernel)) (fun _ _ _ _ _ => pg_name (i := 4) sc_best_pits.nd rfl (Or.inl rfl)) (fun _ => rfl)) fun z H3 _ h => lst_of h) fun z H3 s3 h => k z H3 ((s1.trans s2).trans s3) ⟨_, Pt.isBest_of hp h1 h2, ?_⟩)
    · intro s0 H0 C cl fp l x H' hl' s4 hx
      have hx : IsL H' l x := hx
      refine ⟨cts_one (CT.to (ct_eq (x := .int (Pt.wsum wt l)) (y := .int M) (CP.imp (cp_callI GS (wt, l) (hr.mono (by decide)) (ca_v (cv_var 1 rfl) (ca_v (cv_var 4 rfl) ca_nil)) fun vs H5 s5 e => ⟨_, _, e, (((hw.m s1).m s2).m s4).m s5, hx.m s5, hgr l hl'⟩) fun z H2 _ e => e) (cv_var 3 rfl) rfl) (by simp)), fun _ => CP.imp (cv_var 4 rfl) fun z H5 s5 e => by subst e; exact hx.m s5⟩
    · rw [List.map_id' ] at h
      exact h
/-! ### best_worth, least_best, greatest_best -/
def rWorth (i : List (List Nat) × List Int) (v : V) (_ : Hp) : Prop := ∃ l, Pt.Best i.1 i.2 l ∧ v = .int (Pt.wsum i.2 l)
abbrev PBestW (P : Program) (w : World) (K : PySem.W.Frag) (mg : Str → Option Value) (base : Heap) : Prop := Pm P w K mg base "best_worth" 6 ["ground", "worths"] (SpI (aGW (CG K)) rWorth)
theorem sc_best_worth : FnScope ["ground", "worths"] ["ground", "worths"] (defScope s_best_worth) := ⟨rfl, rfl, rfl, by decide +kernel, rfl, by decide +kernel, by decide +kernel⟩
theorem ok_best_worth (GW : PNeedW P w K mg base) (GP : PPits P w K mg base) (GG : PGreat P w K mg base) (D : Df K mg "best_worth" s_best_worth) : PBestW P w K mg base := by
  refine D.pm sc_best_worth (fun _ _ _ _ _ _ us hl => match us, hl with | [_, _], _ => rfl) (fun vs H Q E h => ?_) (fun f cdv A outer s H vs Q E hr h => ?_)
  · obtain ⟨i, ⟨v, u, rfl, _⟩, _⟩ := h; rfl
  · obtain ⟨⟨t, wt⟩, ⟨v, u, rfl, hg, hw, wf, ok⟩, k⟩ := h
    have ok : WOk t.length wt := ok
    have wf : WfG t := wf
    refine ss_cons (s_exprC (cp_callI GW (t, wt) (hr.mono (by decide)) (ca_v (cv_var 0 rfl) (ca_v (cv_var 1 rfl) ca_nil)) (fun vs H1 s1 e => ⟨_, _, e, hg.m s1, hw.m s1, wf, ok⟩)) fun H1 s1 => ?_)
    refine ss_one (s_retE ?_)
    refine re_call GG (hr.mono (by decide)) (A := fun vs H2 => ∃ y, vs = [u, y] ∧ rPits t y H2) (CA.imp (ca_cons (Pa := fun z _ => z = u) (Pr := fun vs H2 => ∃ y, vs = [y] ∧ rPits t y H2) (cv_var 1 rfl)
      (ca_one (CP.imp (cp_callI GP t (hr.mono (by decide)) (ca_one (cv_var 0 rfl)) fun vs H1' s1' ⟨y, e, ey⟩ => ⟨y, e, by subst ey; exact (hg.m s1).m s1', wf⟩) fun z H1 _ h => h)) (mon_eq _)) fun vs H2 _ ⟨z, us, e1, e2, y, e3, h⟩ => ⟨y, by rw [e1, e2, e3], h⟩) fun vs H2 s2 ⟨y, e, ps, hp, hl, hz⟩ => ?_
    refine ⟨(wt, ps), ⟨u, y, e, (hw.m s1).m s2, hl, Nat.le_trans hz (by decide), pits_pos hp, pits_gr wf ok hp⟩, fun z H3 s3 ⟨m, ez, ⟨l, h1, h1'⟩, h2⟩ => k z H3 ((s1.trans s2).trans s3) ⟨l, ⟨(hp.mem l).mp h1, fun m' hm' => ?_⟩, ?_⟩⟩
    · have h1' : Pt.wsum wt l = m := h1'
      have := h2 m' ((hp.mem m').mpr hm')
      show Pt.wsum wt m' ≤ Pt.wsum wt l
      rw [h1']; exact this
    · have h1' : Pt.wsum wt l = m := h1'
      rw [ez, ← h1']
def rLeast (i : List (List Nat) × List Int) (v : V) (H : Hp) : Prop := ∃ l, (Pt.Best i.1 i.2 l ∧ ∀ m, Pt.Best i.1 i.2 m → ∀ x ∈ l, x ∈ m) ∧ IsL H l v
def rGreat (i : List (List Nat) × List Int) (v : V) (H : Hp) : Prop := ∃ l, (Pt.Best i.1 i.2 l ∧ ∀ m, Pt.Best i.1 i.2 m → ∀ x ∈ m, x ∈ l) ∧ IsL H l v
abbrev PLeast (P : Program) (w : World) (K : PySem.W.Frag) (mg : Str → Option Value) (base : Heap) : Prop := Pm P w K mg base "least_best" 6 ["ground", "worths"] (SpI (aGW (CG K)) rLeast)
theorem sc_least_best : FnScope ["ground", "worths"] ["ground", "worths"] (defScope s_least_best) := ⟨rfl, rfl, rfl, by decide +kernel, rfl, by decide +kernel, by decide +kernel⟩
theorem ok_least_best (GW : PNeedW P w K mg base) (GB : PBests P w K mg base) (D : Df K mg "least_best" s_least_best) : PLeast P w K mg base := by
  refine D.pm sc_least_best (fun _ _ _ _ _ _ us hl => match us, hl with | [_, _], _ => rfl) (fun vs H Q E h => ?_) (fun f cdv A outer s H vs Q E hr h => ?_)
  · obtain ⟨i, ⟨v, u, rfl, _⟩, _⟩ := h; rfl
  · obtain ⟨⟨t, wt⟩, ⟨v, u, rfl, hg, hw, wf, ok⟩, k⟩ := h
    refine ss_cons (s_exprC (cp_callI GW (t, wt) (hr.mono (by decide)) (ca_v (cv_var 0 rfl) (ca_v (cv_var 1 rfl) ca_nil)) (fun vs H1 s1 e => ⟨_, _, e, hg.m s1, hw.m s1, wf, ok⟩)) fun H1 s1 => ?_)
    refine ss_one (s_ret (cp_ixEx (R := IsL) (Z := fun bs => Pt.IsBest t wt bs) (Z' := fun l => Pt.Best t wt l ∧ ∀ m, Pt.Best t wt m → ∀ x ∈ l, x ∈ m) (i := 0) (CP.imp (cp_callI GB (t, wt) hr (ca_v (cv_var 0 rfl) (ca_v (cv_var 1 rfl) ca_nil)) (fun vs H2 s2 e => ⟨_, _, e, (hg.m s1).m s2, (hw.m s1).m s2, wf, ok⟩)) fun z H2 _ h => h) cv_int (fun bs hb => ?_) rt_l.m) fun z H2 s2 h => k z H2 (s1.trans s2) h)
    cases bs with
    | nil => exact absurd rfl hb.ne
    | cons l bs => exact ⟨l, atI_nat (j := 0) (xs := l :: bs) rfl, Pt.least_of hb rfl⟩
abbrev PGreatB (P : Program) (w : World) (K : PySem.W.Frag) (mg : Str → Option Value) (base : Heap) : Prop := Pm P w K mg base "greatest_best" 6 ["ground", "worths"] (SpI (aGW (CG K)) rGreat)
theorem sc_greatest_best : FnScope ["ground", "worths"] ["ground", "worths"] (defScope s_greatest_best) := ⟨rfl, rfl, rfl, by decide +kernel, rfl, by decide +kernel, by decide +kernel⟩
theorem ok_greatest_best (GW : PNeedW P w K mg base) (GB : PBests P w K mg base) (D : Df K mg "greatest_best" s_greatest_best) : PGreatB P w K mg base := by
  refine D.pm sc_greatest_best (fun _ _ _ _ _ _ us hl => match us, hl with | [_, _], _ => rfl) (fun vs H Q E h => ?_) (fun f cdv A outer s H vs Q E hr h => ?_)
  · obtain ⟨i, ⟨v, u, rfl, _⟩, _⟩ := h; rfl
  · obtain ⟨⟨t, wt⟩, ⟨v, u, rfl, hg, hw, wf, ok⟩, k⟩ := h
    refine ss_cons (s_exprC (cp_callI GW (t, wt) (hr.mono (by decide)) (ca_v (cv_var 0 rfl) (ca_v (cv_var 1 rfl) ca_nil)) (fun vs H1 s1 e => ⟨_, _, e, hg.m s1, hw.m s1, wf, ok⟩)) fun H1 s1 => ?_)
    refine ss_one (s_ret (cp_ixEx (R := IsL) (Z := fun bs => Pt.IsBest t wt bs) (Z' := fun l => Pt.Best t wt l ∧ ∀ m, Pt.Best t wt m → ∀ x ∈ m, x ∈ l) (i := -1) (CP.imp (cp_callI GB (t, wt) hr (ca_v (cv_var 0 rfl) (ca_v (cv_var 1 rfl) ca_nil)) (fun vs H2 s2 e => ⟨_, _, e, (hg.m s1).m s2, (hw.m s1).m s2, wf, ok⟩)) fun z H2 _ h => h) (cv_neg cv_int) (fun bs hb => ?_) rt_l.m) fun z H2 s2 h => k z H2 (s1.trans s2) h)
    have hn : 0 < bs.length := List.length_pos_iff.mpr hb.ne
    have hl : bs[bs.length - 1]? = some bs[bs.length - 1] := List.getElem?_eq_getElem (by omega)
    exact ⟨_, atI_last hn, Pt.greatest_of hb hl⟩
/-! ### together -/
def aTog (i : List Nat × List Nat) (vs : List V) (H : Hp) : Prop := ∃ v u, vs = [v, u] ∧ IsL H i.1 v ∧ IsL H i.2 u ∧ i.1.length + i.2.length < 64
def rTog (i : List Nat × List Nat) (v : V) (H : Hp) : Prop := ∃ u, IsL H u v ∧ Pt.Asc u ∧ ∀ x, x ∈ u ↔ x ∈ i.1 ∨ x ∈ i.2
abbrev PTog (P : Program) (w : World) (K : PySem.W.Frag) (mg : Str → Option Value) (base : Heap) : Prop := Pm P w K mg base "together" 1 ["one", "other"] (SpI aTog rTog)
theorem sc_together : FnScope ["one", "other"] ["one", "other"] (defScope s_together) := ⟨rfl, rfl, rfl, by decide +kernel, rfl, by decide +kernel, by decide +kernel⟩
theorem ok_together (T : Tx K mg) (D : Df K mg "together" s_together) : PTog P w K mg base := by
  refine D.pm sc_together (fun _ _ _ _ _ _ us hl => match us, hl with | [_, _], _ => rfl) (fun vs H Q E h => ?_) (fun f cdv A outer s H vs Q E hr h => ?_)
  · obtain ⟨i, ⟨v, u, rfl, _⟩, _⟩ := h; rfl
  · obtain ⟨⟨l, m⟩, ⟨v, u, rfl, hl, hm, hz⟩, k⟩ := h
    have hz : l.length + m.length < 64 := hz
    refine ss_one (s_ret (cp_tupSet (l := l ++ m) T.tuple T.sorted T.set (CP.imp (cp_catT (R := RNat) rt_nat.m ((cv_var 0 rfl).imp fun z H1 s1 e => by subst e; exact isL_tup.mp (hl.m s1)) ((cv_var 1 rfl).imp fun z H1 s1 e => by subst e; exact isL_tup.mp (hm.m s1)) (by omega)) fun z H1 _ h => ?_) (by rw [List.length_append]; exact hz)) fun z H1 s1 ⟨x, h1, h2, h3⟩ => k z H1 s1 ⟨x, h1, h2, fun y => by rw [h3, List.mem_append]⟩)
    obtain ⟨a, e, h1⟩ := isTup_nv h
    exact ⟨a, e, .inr h1⟩
end
end Pz
end
section
set_option Elab.async false
set_option linter.all false
set_option maxRecDepth 100000
set_option maxHeartbeats 4000000
namespace Pz
open PySem PySem.Spec PyProof.Rows L2
section
variable {X : Cx} {o i e f a b tg : Expr} {es : List Expr} {st rest body : List Stmt} {σ : L2.St} {H : Hp} {P Pi Pa Pb : V → Hp → Prop} {D : Ends} {d : Addr} {v z : V} {pos p apos cpos tpos : Pos}
theorem Rd.m {H H' : Hp} {a : Addr} {u : HO} (s : Same H H') (h : Rd H a u) : Rd H' a u := by
  rcases h with h | ⟨o, h⟩
  · exact .inl (s _ _ h)
  · exact .inr ⟨o, s _ _ h⟩
/-- a value at an address, raw -/
abbrev RV : Rel V := fun _ d v => v = d
theorem rm_v : RM RV := fun _ _ _ _ _ h => h
theorem paired_v : ∀ xs : List V, Paired (RV (fun _ => none)) xs xs
  | [] => .nil
  | x :: xs => .cons rfl (paired_v xs)
/-- a[i] of a raw tuple -/
theorem cv_ixRaw {xs : List V} {j : Int} {y : V} (ha : CP X a σ H (fun v H1 => ∃ T, v = .ref T ∧ H1 T = some (.tup xs))) (hb : CV X b σ H (.int j)) (hd : atI xs j = some y) (hs : PlainIx b := by exact fun _ _ => rfl) : CV X (.Subscript a b pos) σ H y :=
  cp_ixT (R := RV) (ds := xs) (d := y) (CP.imp ha fun v H1 _ ⟨T, e, h⟩ => ⟨T, xs, e, h, paired_v xs⟩) hb hd rm_v hs
/-! ### dicts -/
/-- {} with tuple keys -/
theorem cp_dnewT : CP X (.Dict [] [] pos) σ H (fun v H1 => ∃ F, v = .ref F ∧ H F = none ∧ H1 F = some (.dT [])) := fun H1 s1 Q q =>
  ⟨_, pe_dnewT, fun p hp => q _ _ (same_new hp) ⟨p, rfl, s1.free hp, upd_same⟩⟩
/-- d.get(e, f) -/
theorem cv_dget2 {kvs : List (List L2.Key × V)} {k : List L2.Key} (hu : X.A.units + 1 < cLine) (ho : CV X o σ H (.ref d)) (hd : Rd H d (.dT kvs)) (he : CP X e σ H (fun v H1 => ∃ q, v = .ref q ∧ H1 q = some (.tup (k.map kV)))) (hf : CV X f σ H z) (m : M2 X o "get" apos e f cpos := by exact ⟨rfl, rfl, rfl, rfl⟩) :
    CV X (.Call (.Attribute o "get" apos) [e, f] [] cpos) σ H ((valV kvs k).getD z) := fun H1 s1 Q q =>
  ⟨_, pe_dget2 hu re_pe re_pe re_pe m, ho H1 s1 _ fun u H2 s2 eu => by
    subst eu
    refine ⟨d, rfl, Or.inr ⟨kvs, Rd.m (s1.trans s2) hd⟩, he H2 (s1.trans s2) _ fun y H3 s3 ⟨q', ey, hq⟩ => hf H3 ((s1.trans s2).trans s3) _ fun w H4 s4 ew => ?_⟩
    subst ey ew
    exact ⟨_, Or.inr ⟨kvs, k, q', Rd.m (((s1.trans s2).trans s3).trans s4) hd, rfl, s4 _ _ hq, rfl⟩, q _ _ ((s2.trans s3).trans s4) rfl⟩⟩
/-- d[i] -/
theorem cv_dget (hu : X.A.units + 1 < cLine) (ho : CV X o σ H (.ref d)) (hi : CP X i σ H Pi) (g : ∀ y H1, Same H H1 → Pi y H1 → DGet H1 d y (some v)) (hs : NoSl i := by exact fun _ _ => rfl) : CV X (.Subscript o i pos) σ H v := fun H1 s1 Q q =>
  ⟨_, pe_dget hu re_pe re_pe hs, ho H1 s1 _ fun u H2 s2 eu => by
    subst eu
    exact hi H2 (s1.trans s2) _ fun y H3 s3 py => ⟨d, v, rfl, g y H3 ((s1.trans s2).trans s3) py, q _ _ (s2.trans s3) rfl⟩⟩
theorem cv_dgetT {kvs : List (List L2.Key × V)} {k : List L2.Key} (hu : X.A.units + 1 < cLine) (ho : CV X o σ H (.ref d)) (hd : Rd H d (.dT kvs)) (hi : CP X i σ H (fun v H1 => ∃ q, v = .ref q ∧ H1 q = some (.tup (k.map kV)))) (hv : valV kvs k = some v) (hs : NoSl i := by exact fun _ _ => rfl) : CV X (.Subscript o i pos) σ H v :=
  cv_dget hu ho hi (fun y H1 s1 ⟨q, ey, hq⟩ => .inr ⟨kvs, k, q, Rd.m s1 hd, ey, hq, hv.symm⟩) hs
theorem cv_dgetK {kvs : List (L2.Key × V)} {k : L2.Key} (hu : X.A.units + 1 < cLine) (ho : CV X o σ H (.ref d)) (hd : H d = some (.dK kvs)) (hi : CV X i σ H (kV k)) (hv : valV kvs k = some v) (hs : NoSl i := by exact fun _ _ => rfl) : CV X (.Subscript o i pos) σ H v :=
  cv_dget hu ho hi (fun y H1 s1 ey => .inl ⟨kvs, k, .inl (s1 _ _ hd), ey, hv.symm⟩) hs
/-- e not in d -/
theorem ct_dnotIn {kvs : List (L2.Key × V)} {k : L2.Key} (hu : X.A.units + 1 < cLine) (hi : CV X i σ H (kV k)) (ho : CV X o σ H (.ref d)) (hd : H d = some (.dK kvs)) (hm : behindInMarks .NotIn o = false := by rfl) : CT X (.Compare i [.NotIn] [o] pos) σ H (!(valV kvs k).isSome) := fun H1 s1 Q q =>
  ⟨_, pt_cmp (pc_dnotin hu re_pe re_pe) hm, hi H1 s1 _ fun y H2 s2 ey => ho H2 (s1.trans s2) _ fun u H3 s3 eu => by
    subst ey eu
    exact ⟨d, _, rfl, .inl ⟨kvs, k, .inl (((s1.trans s2).trans s3) _ _ hd), rfl, rfl⟩, _, rfl, q _ (s2.trans s3)⟩⟩
/-- d[i] = e -/
theorem s_dput (hu : X.A.units + 1 < cLine) (he : CP X e σ H P) (ho : CV X o σ H (.ref d)) (hi : CP X i σ H Pi) (mp : Mon P) (g : ∀ v y H1, Same H H1 → P v H1 → Pi y H1 → ∃ H2, DPut H1 d y v H2 ∧ D.nx σ H2)
    (hs : swapsWith e (some (.Subscript o i tpos)) pos.line X.env = pure false := by rfl)  : RS X (.Assign [.Subscript o i tpos] e pos) D σ H :=
  ⟨_, ps_dput hu re_pe re_pe re_pe hs, he H (Same.refl _) _ fun v H1 s1 pv => ho H1 s1 _ fun u H2 s2 eu => hi H2 (s1.trans s2) _ fun y H3 s3 py => by
    obtain ⟨H4, h1, h2⟩ := g v y H3 ((s1.trans s2).trans s3) (mp _ _ _ (s2.trans s3) pv) py
    exact ⟨d, H4, eu, h1, h2⟩⟩
/-- d[i] -= e -/
theorem s_dsub {x y : Int} (hu : X.A.units + 1 < cLine) (ho : CV X o σ H (.ref d)) (hi : CP X i σ H Pi) (mi : Mon Pi) (he : CV X e σ H (.int y)) (g1 : ∀ k H1, Same H H1 → Pi k H1 → DGet H1 d k (some (.int x))) (g : ∀ k H1, Same H H1 → Pi k H1 → ∃ H2, DPut H1 d k (.int (x - y)) H2 ∧ D.nx σ H2)
    (ha : ∀ ov iv new, augStore i ov iv new = (do holding [new, ov, iv] (setItem ov iv new); release [new, ov, iv] []; pure .next) := by intros; rfl) : RS X (.AugAssign (.Subscript o i tpos) .Sub e pos) D σ H :=
  ⟨_, ps_daug hu re_pe re_pe re_pe in_sub ha, ho H (Same.refl _) _ fun u H1 s1 eu => hi H1 s1 _ fun k H2 s2 pk => ⟨d, .int x, eu, g1 k H2 (s1.trans s2) pk, he H2 (s1.trans s2) _ fun w H3 s3 ew => by
    subst ew
    obtain ⟨H4, h1, h2⟩ := g k H3 ((s1.trans s2).trans s3) (mi _ _ _ s3 pk)
    exact ⟨x, y, rfl, rfl, H4, h1, h2⟩⟩⟩
/-- for target in d, the keys tuples: d is locked -/
theorem s_forD {it : Expr} {kvs : List (List L2.Key × V)} (he : ∀ H1, CV X it σ H1 (.ref d)) (hd : H d = some (.dT kvs)) (Pv : Obj → Nat → L2.St → Hp → Prop) (h0 : ∀ od H1, Same (L2.upd H d (.frz od (.dT kvs))) H1 → Pv od 0 σ H1) (hK : ∀ od i σ' H', Pv od i σ' H' → H' d = some (.frz od (.dT kvs)))
    (turn : ∀ od i k v q σ' H' rt bk, kvs[i]? = some (k, v) → Pv od i σ' H' → H' q = some (.tup (k.map kV)) → RG X tg (.ref q) σ' H' fun σ3 H4 => RSs X body { nx := Pv od (i + 1), rt := rt, ct := Pv od (i + 1), bk := bk } σ3 H4)
    (hx : ∀ od σ' H', Pv od kvs.length σ' H' → D.nx σ' (L2.upd H' d (.dT kvs))) (hp : PassesOwn (model X.prog X.w) X.A X.env X.xe := by exact PassesOwn.never) (hc : X.calm = true := by rfl)
    (hs : ∀ x, foldedSetIterable it X.env x = pure x := by intro _; rfl) : RS X (.For tg it body [] pos) D σ H :=
  ⟨_, ps_lock (ps_for hp hc (pi_keys re_pe) rg_pg rss_pss hs), d, .dT kvs, hd, trivial, fun od => he _ _ (Same.refl _) _ fun v H2 s2 ev => by
    have h2 : H2 d = some (.frz od (.dT kvs)) := s2 _ _ upd_same
    refine ⟨d, od, ev, .inr ⟨kvs, h2, for_it walk_keysT (Pv od) (h0 od H2 s2) (fun i σ' H' _ p => hK od i σ' H' p) (fun i x σ' H3 H' hi p ⟨e1, k, v, q, e2, e3, e4⟩ => ?_) fun σ' H' p => ⟨hK od _ _ _ p, hx od σ' H' p⟩⟩⟩
    subst e1 e3
    exact turn od i k v q σ' _ _ _ e2 p e4⟩
end
end Pz
end
section
set_option Elab.async false
set_option linter.all false
set_option maxRecDepth 100000
set_option maxHeartbeats 4000000
namespace Pt
theorem wout_take {t : Tab} {ps : List Lot} {p : Lot} {i b : Nat} (h : IsPits t ps) (hp : ps[i]? = some p) (hb : b ∈ p) : wout p b ∈ ps.take i ↔ Pit t (wout p b) := by
  constructor
  · intro hm
    exact (h.mem _).mp (List.mem_of_mem_take hm)
  · intro hw
    obtain ⟨j, hj, ej⟩ := List.mem_iff_getElem.mp ((h.mem _).mpr hw)
    obtain ⟨hi, ei⟩ := List.getElem?_eq_some_iff.mp hp
    have hl := len_wout hb
    rcases Nat.lt_trichotomy j i with z | z | z
    · rw [List.mem_iff_getElem]
      exact ⟨j, by rw [List.length_take]; omega, by rw [List.getElem_take]; exact ej⟩
    · subst z
      rw [ei] at ej
      rw [← ej] at hl
      omega
    · have := List.pairwise_iff_getElem.mp h.ord i j hi hj z
      rw [ei, ej] at this
      omega
theorem opt_lt {F : Lot → Prop} {val : Lot → Int} {v : Int} {l m : Lot} {n : Nat} (h : Opt F val memL v l m) (hF : ∀ q, F q → ∀ x ∈ q, x < n) : (∀ x ∈ l, x < n) ∧ ∀ x ∈ m, x < n := by
  constructor
  · intro x hx
    obtain ⟨i, hi, e⟩ := h.att
    exact hF i hi x ((h.ml x).mp hx i hi e)
  · intro x hx
    obtain ⟨i, hi, _, hm⟩ := (h.mm x).mp hx
    exact hF i hi x hm
end Pt
namespace Pz
open PySem PySem.Spec PyProof.Rows L2
/-! ### loops over what a call gives -/
def KL (H H' : Hp) : Prop := TS H H' ∧ ∀ a xs, H a = some (.lst xs) → H' a = some (.lst xs)
theorem Same.kl {H H' : Hp} (s : Same H H') : KL H H' := ⟨Pz.Same.ts s, fun a xs h => s _ _ h⟩
theorem KL.trans {H H1 H2 : Hp} (a : KL H H1) (b : KL H1 H2) : KL H H2 := ⟨a.1.trans b.1, fun p xs h => b.2 _ _ (a.2 _ _ h)⟩
theorem kl_upd {H : Hp} {p : Addr} {o o0 : HO} (h : H p = some o0) (n : ∀ xs, o0 ≠ .tup xs) (n2 : ∀ xs, o0 ≠ .lst xs) : KL H (L2.upd H p o) := ⟨ts_upd h n, fun a xs e => by
  rw [upd_ne (fun z => by rw [z, h] at e; exact n2 xs (Option.some.inj e))]; exact e⟩
section
variable {X : Cx} {tg it : Expr} {body : List Stmt} {σ : L2.St} {H : Hp} {D : Ends} {pos : Pos}
theorem s_forLX {δ : Type} {Z : List δ → Prop} {R : Rel δ} (he : CP X it σ H (fun v H1 => ∃ ds, Z ds ∧ IsLst R H1 ds v)) (rt : RT1 R) (Pv : List δ → Hp → Nat → L2.St → Hp → Prop) (h0 : ∀ ds H2, Same H H2 → Z ds → Pv ds H2 0 σ H2)
    (hK : ∀ ds H2 i σ' H', Pv ds H2 i σ' H' → KL H2 H')
    (turn : ∀ ds H2 i d x σ' H', Z ds → Same H H2 → ds[i]? = some d → Pv ds H2 i σ' H' → R H' d x → RG X tg x σ' H' fun σ3 H4 => RSs X body { D with nx := Pv ds H2 (i + 1), ct := Pv ds H2 (i + 1), bk := D.nx } σ3 H4)
    (hd : ∀ ds H2 σ' H', Z ds → Same H H2 → Pv ds H2 ds.length σ' H' → D.nx σ' H') (hp : PassesOwn (model X.prog X.w) X.A X.env X.xe := by exact PassesOwn.never) (hc : X.calm = true := by rfl)
    (hs : ∀ x, foldedSetIterable it X.env x = pure x := by intro _; rfl) : RS X (.For tg it body [] pos) D σ H :=
  ⟨_, ps_for hp hc (pi_list re_pe) rg_pg rss_pss hs, he H (Same.refl H) _ fun v H2 s2 ⟨ds, z, a, xs, e1, h1, pr⟩ => ⟨a, e1, ⟨xs, SqL.of h1⟩, for_it (walk_list (xs := xs)) (Pv ds H2) (h0 ds H2 s2 z) (fun i σ' H' hi p => SqL.of ((hK ds H2 i σ' H' p).2 _ _ h1))
    (fun i x σ' H3 H' hi p ⟨e2, e3⟩ => by
      subst e2
      obtain ⟨d, q1, q2⟩ := paired_getR pr e3
      exact turn ds H2 i d x σ' _ z s2 q1 p (rt _ _ _ _ (hK ds H2 i σ' _ p).1 q2)) fun σ' H' p => hd ds H2 σ' H' z s2 (by rw [paired_len pr]; exact p)⟩⟩
end
/-! ### dicts by lots -/
def lk (l : List Nat) : List L2.Key := l.map fun n : Nat => .inl (n : Int)
theorem lk_kv (l : List Nat) : (lk l).map kV = nv l := by unfold lk; rw [List.map_map]; rfl
theorem lk_inj {l m : List Nat} (h : lk l = lk m) : l = m := by
  unfold lk at h
  exact (List.map_inj_right (fun x y e => by injection e with e; omega)).mp h
abbrev Tri := Int × List Nat × List Nat
def RTrip : Rel Tri := fun H d v => ∃ T x y, v = .ref T ∧ H T = some (.tup [.int d.1, x, y]) ∧ IsL H d.2.1 x ∧ IsL H d.2.2 y
theorem rt_trip : RT1 RTrip := fun H H' d v s ⟨T, x, y, e, h, h1, h2⟩ => ⟨T, x, y, e, s _ _ h, rt_l _ _ _ _ s h1, rt_l _ _ _ _ s h2⟩
abbrev OEnt := List Nat × Tri
def REnt (H : Hp) (e : OEnt) (kv : List L2.Key × V) : Prop := kv.1 = lk e.1 ∧ RTrip H e.2 kv.2
theorem rents {H H' : Hp} (s : TS H H') {es : List OEnt} {kvs : List (List L2.Key × V)} (p : Paired (REnt H) es kvs) : Paired (REnt H') es kvs := by
  induction p with
  | nil => exact .nil
  | cons h t ih => exact .cons ⟨h.1, rt_trip _ _ _ _ s h.2⟩ ih
theorem ent_some {H : Hp} {es : List OEnt} {kvs : List (List L2.Key × V)} (p : Paired (REnt H) es kvs) {l : List Nat} (hl : l ∈ es.map (·.1)) : ∃ e ∈ es, e.1 = l ∧ ∃ v, valV kvs (lk l) = some v ∧ RTrip H e.2 v := by
  induction p with
  | nil => cases hl
  | @cons e kv es' kvs' h t ih =>
    by_cases he : e.1 = l
    · exact ⟨e, List.mem_cons_self .., he, kv.2, valV_pos (by rw [h.1, he]), h.2⟩
    · rw [List.map_cons, List.mem_cons] at hl
      obtain ⟨e', h1, h2, v, h3, h4⟩ := ih (hl.resolve_left fun z => he z.symm)
      exact ⟨e', List.mem_cons_of_mem _ h1, h2, v, by rw [valV_neg (fun z => he (lk_inj (h.1.symm.trans z)))]; exact h3, h4⟩
theorem ent_none {H : Hp} {es : List OEnt} {kvs : List (List L2.Key × V)} (p : Paired (REnt H) es kvs) {l : List Nat} (hl : l ∉ es.map (·.1)) : valV kvs (lk l) = none := by
  induction p with
  | nil => exact valV_nil
  | @cons e kv es' kvs' h t ih =>
    rw [List.map_cons, List.mem_cons, not_or] at hl
    rw [valV_neg (fun z => hl.1 (lk_inj (h.1.symm.trans z)).symm)]
    exact ih hl.2
section
variable {P : Program} {w : World} {K : PySem.W.Frag} {mg : Str → Option Value} {base : Heap}
/-! ### open_pits -/
structure OpenD (t : List (List Nat)) (r : List Int) (H : Hp) (F : Addr) (es : List OEnt) : Prop where
  dict : ∃ kvs, H F = some (.dT kvs) ∧ Paired (REnt H) es kvs
  pits : Pt.IsPits t (es.map (·.1))
  len : es.length ≤ 1024
  opt : ∀ e ∈ es, Pt.OpenOpt t r e.1 e.2.1 e.2.2.1 e.2.2.2
def spOpen (C : Addr) : Sp := fun vs H Q _ => ∃ i, aGW C i vs H ∧ ∀ F es H', Same H H' → H F = none → OpenD i.1 i.2 H' F es → Q (.ref F) H'
abbrev POpen (P : Program) (w : World) (K : PySem.W.Frag) (mg : Str → Option Value) (base : Heap) : Prop := Pm P w K mg base "open_pits" 5 ["ground", "refills"] (spOpen (CG K))
theorem sc_open_pits : FnScope ["ground", "refills", "found", "pit", "best", "least", "most", "block", "told"] ["ground", "refills"] (defScope s_open_pits) := ⟨rfl, rfl, rfl, by decide +kernel, rfl, by decide +kernel, by decide +kernel⟩
theorem ok_open_pits (T : Tx K mg) (GP : PPits P w K mg base) (GS : PSum P w K mg base) (GW : PWithout P w K mg base) (GC : PCommon P w K mg base) (GT : PTog P w K mg base) (D : Df K mg "open_pits" s_open_pits) : POpen P w K mg base := by
  refine D.pm sc_open_pits (fun _ _ _ _ _ _ us hl => match us, hl with | [_, _], _ => rfl) (fun vs H Q E h => ?_) (fun f cdv A outer s H vs Q E hr h => ?_)
  · obtain ⟨i, ⟨v, u, rfl, _⟩, _⟩ := h; rfl
  · obtain ⟨⟨t, rf⟩, ⟨v, u, rfl, hg, hw, wf, ok⟩, k⟩ := h
    have ok : WOk t.length rf := ok
    have wf : WfG t := wf
    have h10 := wf.le
    have tk := wf.ok
    have hun : A.units + 1 + 100 < cLine := by have := hr.un; have e : (A.deeper (envOfC "open_pits" (defScope s_open_pits) s.heap.objs.size f cdv)).units = A.units + 3 := rfl; omega
    refine ss_cons (s_set 2 cp_dnewT (fun x H1 s1 ⟨F, ex, hF0, hF⟩ => ?_) (hN := sc_open_pits.nd))
    subst ex
    refine ss_cons (s_forLX (R := IsL) (Z := fun ps => Pt.IsPits t ps ∧ ps.length ≤ 1024) (CP.imp (cp_callI GP t hr (ca_one (cv_var 0 rfl)) fun vs H2 s2 ⟨y, e, ey⟩ => ⟨y, e, by subst ey; exact (hg.m s1).m s2, wf⟩) fun z H2 _ ⟨ps, h1, h2, h3⟩ => ⟨ps, ⟨h1, h3⟩, h2⟩) rt_l
      (fun ps H2 i σ' H' => ∃ a b c d e g kvs es, σ' = [some v, some u, some (.ref F), a, b, c, d, e, g] ∧ Same H H' ∧ KL H2 H' ∧ H' F = some (.dT kvs) ∧ Paired (REnt H') es kvs ∧ es.map (·.1) = ps.take i ∧ ∀ e ∈ es, Pt.OpenOpt t rf e.1 e.2.1 e.2.2.1 e.2.2.2)
      (fun ps H2 s2 z => ⟨none, none, none, none, none, none, [], [], rfl, s1.trans s2, Pz.Same.kl (Same.refl _), s2 _ _ hF, .nil, by rw [List.take_zero]; rfl, fun e he => nomatch he⟩) (fun ps H2 i σ' H' ⟨_, _, _, _, _, _, _, _, _, _, h, _⟩ => h)
      (fun ps H2 i p x σ' H' z s2 hp st r => ?_) (fun ps H2 σ' H' z s2 st => ?_))
    · obtain ⟨a, b, c, d, e, g, kvs, es, rfl, p1, p2, p3, p4, p5, p6⟩ := st
      have hi : i < ps.length := by
        rcases Nat.lt_or_ge i ps.length with z | z
        · exact z
        · rw [List.getElem?_eq_none z] at hp; cases hp
      have hpp : Pt.Pit t p := (z.1.mem p).mp (List.mem_of_getElem? hp)
      have hpl : p.length ≤ t.length := pit_len hpp
      have hes : es.length = i := by
        have := congrArg List.length p5
        rw [List.length_map, List.length_take] at this
        omega
      refine ⟨_, pg_name (i := 3) sc_open_pits.nd rfl (Or.inl rfl), ?_⟩
      show RSs _ _ _ [some v, some u, some (.ref F), some x, b, c, d, e, g] H'
      refine ss_cons (s_par3 4 5 6 (A := fun vs _ => vs = [.int (Pt.wsum rf p), x, x]) (ca_v (CP.imp (cp_callI GS (rf, p) (hr.mono (by decide)) (ca_v (cv_var 1 rfl) (ca_v (cv_var 3 rfl) ca_nil)) fun vs H3 s3 e => ⟨_, _, e, (hw.m p1).m s3, IsL.m r s3, (show p.length ≤ 1000 by omega), fun b hb => (show b < rf.length by rw [ok.len]; exact hpp.lt b hb)⟩) fun z H3 _ e => e) (ca_v (cv_var 3 rfl) (ca_v (cv_var 3 rfl) ca_nil)))
        (fun vs H3 s3 ev => ⟨_, _, _, ev, ?_⟩) (hN := sc_open_pits.nd))
      show RSs _ _ _ [some v, some u, some (.ref F), some x, some (.int (Pt.wsum rf p)), some x, some x, e, g] H3
      have r3 : IsL H3 p x := IsL.m r s3
      refine ss_cons (s_for (Kp := TS) (ds := p) (R := RNat) (ci_tup ((cv_var 3 rfl).imp fun q H4 s4 e => by subst e; exact isL_tup.mp (r3.m s4)) rt_nat)
        (fun H4 j σ'' H'' => ∃ bv vl vm l m e g, σ'' = [some v, some u, some (.ref F), some x, some (.int bv), some vl, some vm, e, g] ∧ Same H3 H'' ∧ Same H4 H'' ∧ IsL H'' l vl ∧ IsL H'' m vm ∧ Pt.Opt (Pt.Fam t p (p.take j)) (Pt.wsum rf) Pt.memL bv l m)
        (fun H4 s4 => ⟨_, x, x, p, p, e, g, rfl, s4, Same.refl _, r3.m s4, r3.m s4, by rw [List.take_zero]; exact Pt.fam_start hpp⟩) (fun _ _ _ _ _ _ ⟨_, _, _, _, _, _, _, _, _, q, _⟩ => Same.ts q)
        (fun H4 j b' x' σ'' H5 H6 s4 hb st s6 r' => ?_) (fun H4 σ'' H5 s4 st => ?_))
      · obtain ⟨bv, vl, vm, l, m, e, g, rfl, q1, q2, q3, q4, q5⟩ := st
        have r' : x' = .int (b' : Int) := r'
        subst r'
        have hbp : b' ∈ p := List.mem_of_getElem? hb
        have q1' := q1.trans s6
        have sFH : Same H' H6 := s3.trans q1'
        have hFd : H6 F = some (.dT kvs) := sFH _ _ p3
        have hents : Paired (REnt H6) es kvs := rents (Pz.Same.ts sFH) p4
        have etake : p.take (j + 1) = p.take j ++ [b'] := by rw [List.take_add_one, hb]; rfl
        refine ⟨_, pg_name (i := 7) sc_open_pits.nd rfl (Or.inl rfl), ?_⟩
        show RSs _ _ _ [some v, some u, some (.ref F), some x, some (.int bv), some vl, some vm, some (.int (b' : Int)), g] H6
        refine ss_cons (s_set 8 (P := fun y _ => y = (valV kvs (lk (Pt.wout p b'))).getD .non) (cv_dget2 (kvs := kvs) (k := lk (Pt.wout p b')) (z := .non) (by show (A.deeper _).units + 1 < _; show A.units + 3 + 1 < _; omega) (cv_var 2 rfl) (.inl hFd)
          (CP.imp (cp_callI GW (p, [b']) (hr.mono (by decide)) (ca_cons (Pa := fun z _ => z = x) (Pr := fun vs H7 => ∃ y, vs = [y] ∧ IsL H7 [b'] y) (cv_var 3 rfl) (ca_one (CP.imp (cp_tup (ca_v (cv_var 7 rfl) ca_nil) (fun _ _ _ _ e => e) (fun vs _ e => by rw [e]; show 1 ≤ 1000; decide)) fun y H7 _ ⟨tq, vs, e1, e2, e3⟩ => (show IsL H7 [b'] y from ⟨tq, e1, by rw [e2, e3]; rfl⟩))) (mon_eq _)) fun vs H7 s7 ⟨z', us, e, ez, y, e2, h7⟩ => ⟨x, y, by rw [e, ez, e2], (r3.m q1').m s7, h7, (show p.length ≤ 1000 by omega)⟩) fun y H7 _ h => ?_) cv_non) (fun y H7 s7 ey => ?_) (hN := sc_open_pits.nd))
        · obtain ⟨q, e1, e2⟩ := h
          exact ⟨q, e1, by rw [lk_kv]; exact e2⟩
        · subst ey
          have hSame : Same H3 H7 := q1'.trans s7
          have hS4 : Same H4 H7 := (q2.trans s6).trans s7
          have q3' := (IsL.m q3 s6).m s7
          have q4' := (IsL.m q4 s6).m s7
          have hmt : Pt.wout p b' ∈ es.map (·.1) ↔ Pt.Pit t (Pt.wout p b') := by rw [p5]; exact Pt.wout_take z.1 hp hbp
          by_cases hin : Pt.wout p b' ∈ es.map (·.1)
          · obtain ⟨en, he1, he2, tv, he3, he4⟩ := ent_some hents hin
            rw [he3]
            show RSs _ _ _ [some v, some u, some (.ref F), some x, some (.int bv), some vl, some vm, some (.int (b' : Int)), some tv] H7
            obtain ⟨Tq, y1, y2, rfl, hT, hy1, hy2⟩ := he4
            have hT := s7 _ _ hT
            have hy1 := hy1.m s7
            have hy2 := hy2.m s7
            have hoo := p6 en he1
            rw [he2] at hoo
            have hyes := fun q => Pt.fam_yes (bs := p.take j) (hmt.mp hin) q
            have hlts := Pt.opt_lt (n := t.length) q5 fun q hq y hy => by
              rcases hq with rfl | ⟨b2, _, _, hq⟩
              · exact hpp.lt y hy
              · exact hq.1.lt y hy
            have hlts2 := Pt.opt_lt (n := t.length) hoo fun q hq y hy => hq.1.lt y hy
            have hll := asc_len q5.al hlts.1
            have hml := asc_len q5.am hlts.2
            have hml2 := asc_len hoo.am hlts2.2
            refine ss_one (s_if (b := decide (en.2.1 < bv)) (CT.to (CW.ct (cw_and (k := true) (l := decide (en.2.1 < bv)) (CT.to (ct_notN (cv_var 8 rfl)) (by simp)) fun _ => cw_and1 (ct_lt (cv_ixRaw (xs := [.int en.2.1, y1, y2]) ((cv_var 8 rfl).imp fun q H9 s9 ev => ⟨Tq, ev, s9 _ _ hT⟩) cv_int rfl) (cv_var 4 rfl)))) (Bool.true_and _)) (fun hlt H8 s8 => ?_) (fun hlt H8 s8 => ?_))
            · have hlt := of_decide_eq_true hlt
              refine ss_one (s_asg (P := fun q _ => q = .ref Tq) (cv_var 8 rfl) fun q H9 s9 ev => g_trip 4 5 6 ev (s9 _ _ (s8 _ _ hT)) (hN := sc_open_pits.nd) ?_)
              exact ⟨en.2.1, y1, y2, en.2.2.1, en.2.2.2, _, _, rfl, (hSame.trans s8).trans s9, (hS4.trans s8).trans s9, (hy1.m s8).m s9, (hy2.m s8).m s9, (Pt.Opt.less q5 hoo hlt).iff fun q => by rw [etake]; exact (hyes q).symm⟩
            · have hlt := of_decide_eq_false hlt
              refine ss_one (s_if (b := decide (V.int en.2.1 = V.int bv)) (CT.to (CW.ct (cw_and (k := true) (l := decide (V.int en.2.1 = V.int bv)) (CT.to (ct_notN (cv_var 8 rfl)) (by simp)) fun _ => cw_and1 (ct_eq (cv_ixRaw (xs := [.int en.2.1, y1, y2]) ((cv_var 8 rfl).imp fun q H9 s9 ev => ⟨Tq, ev, s9 _ _ (s8 _ _ hT)⟩) cv_int rfl) (cv_var 4 rfl) rfl))) (Bool.true_and _)) (fun heq H9 s9 => ?_) (fun heq H9 s9 => ?_))
              · have heq : en.2.1 = bv := by
                  have := of_decide_eq_true heq
                  injection this
                have sT : Same H7 H9 := s8.trans s9
                refine ss_one (s_par 5 6 (A := fun vs H => ∃ c d, vs = [c, d] ∧ IsL H (Pt.inter l en.2.2.1) c ∧ rTog (m, en.2.2.2) d H) (CA.imp (ca_cons (Pa := fun c H => IsL H (Pt.inter l en.2.2.1) c) (Pr := fun vs H => ∃ d, vs = [d] ∧ rTog (m, en.2.2.2) d H)
                  (CP.imp (cp_callI GC (l, en.2.2.1) (hr.mono (by decide)) (ca_v (v := vl) (cv_var 5 rfl) (ca_v (v := y1) (cv_ixRaw (xs := [.int en.2.1, y1, y2]) ((cv_var 8 rfl).imp fun q H10 s10 ev => ⟨Tq, ev, s10 _ _ (sT _ _ hT)⟩) cv_int rfl) ca_nil)) fun vs H10 s10 ev => ⟨_, _, ev, (q3'.m sT).m s10, (hy1.m sT).m s10, (show l.length ≤ 1000 by omega)⟩) fun c H10 _ h => h)
                  (ca_one (CP.imp (cp_callI GT (m, en.2.2.2) (hr.mono (by decide)) (ca_v (v := vm) (cv_var 6 rfl) (ca_v (v := y2) (cv_ixRaw (xs := [.int en.2.1, y1, y2]) ((cv_var 8 rfl).imp fun q H10 s10 ev => ⟨Tq, ev, s10 _ _ (sT _ _ hT)⟩) cv_int rfl) ca_nil)) fun vs H10 s10 ev => ⟨_, _, ev, (q4'.m sT).m s10, (hy2.m sT).m s10, (show m.length + en.2.2.2.length < 64 by omega)⟩) fun c H10 _ h => h)) (mon_l _))
                  fun vs H10 _ ⟨c, us, e1, hc, d, e2, hd⟩ => ⟨c, d, by rw [e1, e2], hc, hd⟩) (fun vs H10 s10 ⟨c, d, ev, hc, um, hd, au, mu⟩ => ⟨c, d, ev, ?_⟩) (hN := sc_open_pits.nd))
                exact ⟨bv, c, d, Pt.inter l en.2.2.1, um, _, _, rfl, (hSame.trans sT).trans s10, (hS4.trans sT).trans s10, hc, hd, (Pt.Opt.same q5 (by rw [← heq]; exact hoo) au mu).iff fun q => by rw [etake]; exact (hyes q).symm⟩
              · have hne : en.2.1 ≠ bv := fun z => (of_decide_eq_false heq) (by rw [z])
                exact ss_nil ⟨bv, vl, vm, l, m, _, _, rfl, (hSame.trans s8).trans s9, (hS4.trans s8).trans s9, (q3'.m s8).m s9, (q4'.m s8).m s9, (Pt.Opt.more q5 hoo (by omega)).iff fun q => by rw [etake]; exact (hyes q).symm⟩
          · rw [ent_none hents hin]
            show RSs _ _ _ [some v, some u, some (.ref F), some x, some (.int bv), some vl, some vm, some (.int (b' : Int)), some .non] H7
            have hno := fun q => Pt.fam_no (bs := p.take j) (fun z => hin (hmt.mpr z)) q
            refine ss_one (s_if (b := false) (CT.to (CW.ct (cw_and (k := false) (l := true) (CT.to (ct_notN (cv_var 8 rfl)) (by simp)) fun z => nomatch z)) rfl) (fun z => nomatch z) (fun _ H8 s8 => ?_))
            refine ss_one (s_if (b := false) (CT.to (CW.ct (cw_and (k := false) (l := true) (CT.to (ct_notN (cv_var 8 rfl)) (by simp)) fun z => nomatch z)) rfl) (fun z => nomatch z) (fun _ H9 s9 => ?_))
            exact ss_nil ⟨bv, vl, vm, l, m, _, _, rfl, (hSame.trans s8).trans s9, (hS4.trans s8).trans s9, (q3'.m s8).m s9, (q4'.m s8).m s9, q5.iff fun q => by rw [etake]; exact (hno q).symm⟩
      · obtain ⟨bv, vl, vm, l, m, e, g, rfl, q1, q2, q3, q4, q5⟩ := st
        rw [List.take_length] at q5
        have hopt : Pt.OpenOpt t rf p bv l m := q5.iff fun q => Pt.fam_all tk hpp q
        have sH5 : Same H' H5 := s3.trans q1
        have hnin : p ∉ es.map (·.1) := by
          rw [p5]
          intro hm
          obtain ⟨j, hj, ej⟩ := List.mem_iff_getElem.mp hm
          rw [List.getElem_take] at ej
          rw [List.length_take] at hj
          obtain ⟨hi', ei⟩ := List.getElem?_eq_some_iff.mp hp
          have := (List.getElem_inj z.1.nd (i := j) (j := i)).mp (ej.trans ei.symm)
          omega
        have hents : Paired (REnt H5) es kvs := rents (Pz.Same.ts sH5) p4
        refine ss_one (s_dput (P := fun q H6 => RTrip H6 (bv, l, m) q) (Pi := fun q _ => q = x) (by show A.units + 3 + 1 < _; omega) (CP.imp (cp_tup (ca_v (cv_var 4 rfl) (ca_v (cv_var 5 rfl) (ca_v (cv_var 6 rfl) ca_nil))) (fun _ _ _ _ e => e) (fun vs _ e => by rw [e]; show 3 ≤ 1000; decide)) fun q H6 s6 ⟨Tq, vs, e1, e2, e3⟩ => ⟨Tq, vl, vm, e1, by rw [e2, e3], q3.m s6, q4.m s6⟩) (cv_var 2 rfl) (cv_var 3 rfl) (fun q H6 H7 s h => rt_trip _ _ _ _ (Pz.Same.ts s) h) (fun q k' H6 s6 hq ek => ?_))
        subst ek
        obtain ⟨Tp, ex, hTp⟩ := (IsL.m (IsL.m r sH5) s6 : IsL H6 p k')
        have hF6 : H6 F = some (.dT kvs) := s6 _ _ (sH5 _ _ p3)
        have hval : valV kvs (lk p) = none := ent_none hents hnin
        have hkl : kvs.length < 2000 := by have := paired_len p4; omega
        refine ⟨L2.upd H6 F (.dT (kvs ++ [(lk p, q)])), ?_, ?_⟩
        · subst ex
          have h1 := DPut.t (v := q) (k := lk p) hF6 (by rw [lk_kv]; exact hTp) (by rw [sizeLine_eq]; omega)
          rw [putK_new q hval] at h1
          exact h1
        · have kF : KL H6 (L2.upd H6 F (.dT (kvs ++ [(lk p, q)]))) := kl_upd hF6 (fun xs e => by cases e) (fun xs e => by cases e)
          refine ⟨_, _, _, _, _, _, kvs ++ [(lk p, q)], es ++ [(p, bv, l, m)], rfl, same_mut ((p1.trans sH5).trans s6) hF0, p2.trans ((Pz.Same.kl (sH5.trans s6)).trans kF), upd_same, paired_snoc (rents kF.1 (rents (Pz.Same.ts s6) hents)) ⟨rfl, rt_trip _ _ _ _ kF.1 hq⟩, ?_, fun en hen => ?_⟩
          · rw [List.map_append, p5, List.take_add_one, hp]; rfl
          · rcases List.mem_append.mp hen with h | h
            · exact p6 en h
            · rw [List.mem_singleton.mp h]; exact hopt
    · obtain ⟨a, b, c, d, e, g, kvs, es, rfl, p1, p2, p3, p4, p5, p6⟩ := st
      rw [List.take_length] at p5
      refine ss_one (s_ret (P := fun q _ => q = .ref F) (cv_var 2 rfl) fun q H5 s5 ev => ?_)
      subst ev
      refine k F es H5 (p1.trans s5) hF0 ⟨⟨kvs, s5 _ _ p3, rents (Pz.Same.ts s5) p4⟩, by rw [p5]; exact z.1, ?_, p6⟩
      have := congrArg List.length p5
      rw [List.length_map] at this
      rw [this]; exact z.2
end
end Pz
end
section
set_option Elab.async false
set_option linter.all false
set_option maxRecDepth 100000
set_option maxHeartbeats 4000000
namespace Pt
theorem opt_ltG {ι : Type} {F : ι → Prop} {val : ι → Int} {mem : ι → Nat → Prop} {v : Int} {l m : Lot} {n : Nat} (h : Opt F val mem v l m) (hF : ∀ q, F q → ∀ x, mem q x → x < n) : (∀ x ∈ l, x < n) ∧ ∀ x ∈ m, x < n := by
  constructor
  · intro x hx
    obtain ⟨i, hi, e⟩ := h.att
    exact hF i hi x ((h.ml x).mp hx i hi e)
  · intro x hx
    obtain ⟨i, hi, _, hm⟩ := (h.mm x).mp hx
    exact hF i hi x hm
end Pt
namespace Pz
open PySem PySem.Spec PyProof.Rows L2
section
variable {X : Cx} {a b : Expr} {σ : L2.St} {H : Hp} {pos : Pos}
/-- a[j] of a tuple told by Z -/
theorem cp_ixRawEx {Z : List V → Hp → Prop} {P' : V → Hp → Prop} {j : Int} (ha : CP X a σ H (fun v H1 => ∃ T xs, v = .ref T ∧ H1 T = some (.tup xs) ∧ Z xs H1)) (hb : CV X b σ H (.int j)) (mz : ∀ xs H1 H2, Same H1 H2 → Z xs H1 → Z xs H2) (hd : ∀ xs H1, Z xs H1 → ∃ y, atI xs j = some y ∧ P' y H1) (hs : PlainIx b := by exact fun _ _ => rfl) :
    CP X (.Subscript a b pos) σ H P' := fun H0 s0 Q q =>
  ⟨_, pe_ix ix_tup re_pe re_pe hs, two ha hb (fun v H H' s h => by obtain ⟨T, xs, e1, h1, z⟩ := h; exact ⟨T, xs, e1, s _ _ h1, mz _ _ _ s z⟩) s0 fun x y H1 s1 ⟨T, xs, e1, h1, z⟩ e2 => by
    subst e1 e2
    obtain ⟨y, hd, zd⟩ := hd xs H1 z
    obtain ⟨i, g1, g2, _⟩ := atI_get hd
    refine ⟨T, xs, j, y, rfl, rfl, SqT.of h1, ?_, q _ H1 s1 zd⟩
    exact hd⟩
end
abbrev RPL : Rel (List Nat × List Nat) := RPair IsL IsL
theorem rt_pl : RT1 RPL := rt_pair rt_l rt_l
section
variable {P : Program} {w : World} {K : PySem.W.Frag} {mg : Str → Option Value} {base : Heap}
/-! ### best_plans -/
abbrev GWR := List (List Nat) × List Int × List Int
def aPlans (C : Addr) (i : GWR) (vs : List V) (H : Hp) : Prop := ∃ v u x y, vs = [v, u, x, y] ∧ IsGWR C i v u x H ∧ IsL H [] y
def ZPlans (i : GWR) (xs : List V) (H : Hp) : Prop := ∃ bv x y ld lo md mo ps, xs = [.int bv, x, y] ∧ RPL H (ld, lo) x ∧ RPL H (md, mo) y ∧ Pt.IsPits i.1 ps ∧ Pt.PlanOpt i.1 i.2.1 i.2.2 ps bv ld lo md mo
theorem zplans_m {i : GWR} : ∀ xs H1 H2, Same H1 H2 → ZPlans i xs H1 → ZPlans i xs H2 := fun xs H1 H2 s ⟨bv, x, y, ld, lo, md, mo, ps, e, h1, h2, h3⟩ => ⟨bv, x, y, ld, lo, md, mo, ps, e, rt_pl.m _ _ _ _ s h1, rt_pl.m _ _ _ _ s h2, h3⟩
def rPlans (i : GWR) (v : V) (H : Hp) : Prop := ∃ T xs, v = .ref T ∧ H T = some (.tup xs) ∧ ZPlans i xs H
abbrev PPlans (P : Program) (w : World) (K : PySem.W.Frag) (mg : Str → Option Value) (base : Heap) : Prop := Pm P w K mg base "best_plans" 6 ["ground", "worths", "refills", "begun"] (SpI (aPlans (CG K)) rPlans)
theorem sc_best_plans : FnScope ["ground", "worths", "refills", "begun", "told", "best", "least", "most", "dug", "worth"] ["ground", "worths", "refills", "begun"] (defScope s_best_plans) := ⟨rfl, rfl, rfl, by decide +kernel, rfl, by decide +kernel, by decide +kernel⟩
theorem openD_m {t : List (List Nat)} {r : List Int} {H H' : Hp} {F : Addr} {es : List OEnt} (s : Same H H') (h : OpenD t r H F es) : OpenD t r H' F es :=
  ⟨let ⟨kvs, h1, h2⟩ := h.dict; ⟨kvs, s _ _ h1, rents (Pz.Same.ts s) h2⟩, h.pits, h.len, h.opt⟩
/-- what best, least, most hold behind i of the pits -/
def PSt (t : List (List Nat)) (wt rf : List Int) (ds : List (List Nat)) (b l m : V) (H : Hp) : Prop :=
  (ds = [] ∧ b = .non) ∨ ∃ bv ld lo md mo, b = .int bv ∧ RPL H (ld, lo) l ∧ RPL H (md, mo) m ∧ Pt.PlanOpt t wt rf ds bv ld lo md mo
theorem PSt.m {t : List (List Nat)} {wt rf : List Int} {ds : List (List Nat)} {b l m : V} {H H' : Hp} (s : Same H H') (h : PSt t wt rf ds b l m H) : PSt t wt rf ds b l m H' := by
  rcases h with h | ⟨bv, ld, lo, md, mo, e, h1, h2, h3⟩
  · exact .inl h
  · exact .inr ⟨bv, ld, lo, md, mo, e, rt_pl.m _ _ _ _ s h1, rt_pl.m _ _ _ _ s h2, h3⟩
theorem ok_best_plans (T : Tx K mg) (GO : POpen P w K mg base) (GS : PSum P w K mg base) (GL : PLies P w K mg base) (GC : PCommon P w K mg base) (GT : PTog P w K mg base) (D : Df K mg "best_plans" s_best_plans) : PPlans P w K mg base := by
  refine D.pm sc_best_plans (fun _ _ _ _ _ _ us hl => match us, hl with | [_, _, _, _], _ => rfl) (fun vs H Q E h => ?_) (fun f cdv A outer s H vs Q E hr h => ?_)
  · obtain ⟨i, ⟨v, u, x, y, rfl, _⟩, _⟩ := h; rfl
  · obtain ⟨⟨t, wt, rf⟩, ⟨v, u, x, y, rfl, hG, hy⟩, k⟩ := h
    obtain ⟨hg, hw, hf, wf, ow, orf⟩ := id hG
    have hw : IsW H wt u := hw
    have hf : IsW H rf x := hf
    have hg : IsG (CG K) H t v := hg
    have wf : WfG t := wf
    have ow : WOk t.length wt := ow
    have orf : WOk t.length rf := orf
    have h10 := wf.le
    have hu : (A.deeper (envOfC "best_plans" (defScope s_best_plans) s.heap.objs.size f cdv)).units + 1 < cLine := by have := hr.un; omega
    refine ss_cons (s_asg (P := fun q H1 => ∃ Tq F es, q = .ref Tq ∧ H1 Tq = some (.tup [.ref F, .non, .non, .non]) ∧ H F = none ∧ OpenD t rf H1 F es) (CP.imp (cp_tup (A := fun vs H1 => ∃ F es, vs = [.ref F, .non, .non, .non] ∧ H F = none ∧ OpenD t rf H1 F es) (CA.imp (ca_cons (Pa := fun q H1 => ∃ F es, q = .ref F ∧ H F = none ∧ OpenD t rf H1 F es)
      (cp_call GO hr (ca_v (cv_var 0 rfl) (ca_v (cv_var 2 rfl) ca_nil)) fun vs H1 s1 e Q' k' => ⟨(t, rf), ⟨v, x, e, hg.m s1, hf.m s1, wf, orf⟩, fun F es H2 s2 hF0 ho => k' _ H2 s2 ⟨F, es, rfl, s1.free hF0, ho⟩⟩)
      (ca_v cv_non (ca_v cv_non (ca_v cv_non ca_nil))) (fun q H1 H2 s ⟨F, es, e, h1, h2⟩ => ⟨F, es, e, h1, openD_m s h2⟩)) fun vs H1 _ ⟨q, us, e1, ⟨F, es, e2, h1, h2⟩, e3⟩ => ⟨F, es, by rw [e1, e2, e3], h1, h2⟩)
      (fun vs H1 H2 s ⟨F, es, e, h1, h2⟩ => ⟨F, es, e, h1, openD_m s h2⟩) (fun vs H1 ⟨F, es, e, _⟩ => by rw [e]; show 4 ≤ 1000; decide)) fun q H1 _ ⟨Tq, vs, e1, e2, F, es, e3, h1, h2⟩ => ⟨Tq, F, es, e1, by rw [e2, e3], h1, h2⟩)
      fun q H1 s1 ⟨Tq, F, es, eq, hT, hF0, ho⟩ => g_quad 4 5 6 7 eq hT (hN := sc_best_plans.nd) ?_)
    show RSs _ _ _ [some v, some u, some x, some y, some (.ref F), some .non, some .non, some .non, none, none] H1
    obtain ⟨⟨kvs, hFd, hents⟩, hpits, hlen, hopt⟩ := ho
    have hkl := paired_len hents
    refine ss_cons (s_forD (d := F) (kvs := kvs) (fun H2 => cv_var 4 rfl) hFd (fun od i σ' H' => ∃ b l m dg wo, σ' = [some v, some u, some x, some y, some (.ref F), some b, some l, some m, dg, wo] ∧ Same H H' ∧ H' F = some (.frz od (.dT kvs)) ∧ TS H1 H' ∧ PSt t wt rf ((es.take i).map (·.1)) b l m H')
      (fun od H2 s2 => ⟨.non, .non, .non, none, none, rfl, (same_mut s1 hF0).trans s2, s2 _ _ upd_same, TS.trans (ts_upd hFd fun xs e => by cases e) (Pz.Same.ts s2), .inl ⟨by rw [List.take_zero]; rfl, rfl⟩⟩) (fun od i σ' H' ⟨_, _, _, _, _, _, _, h, _⟩ => h)
      (fun od i k' dv q σ' H' rt bk hkv st hq => ?_) (fun od σ' H' st => ?_))
    · obtain ⟨b, l, m, dg, wo, rfl, p1, p2, p3, p4⟩ := st
      obtain ⟨en, hen, ek, htr⟩ := paired_getR hents hkv
      have ek : k' = lk en.1 := ek
      subst ek
      rw [lk_kv] at hq
      have henm : en ∈ es := List.mem_of_getElem? hen
      obtain ⟨e', he1, he2, dv', hval, htr'⟩ := ent_some hents (List.mem_map.mpr ⟨en, henm, rfl⟩)
      have eeq : e' = en := by
        obtain ⟨i1, hi1, e1⟩ := List.mem_iff_getElem.mp he1
        obtain ⟨i2, hi2⟩ := List.getElem?_eq_some_iff.mp hen
        have : i1 = i := (List.getElem_inj hpits.nd (h₀ := by rw [List.length_map]; exact hi1) (h₁ := by rw [List.length_map]; exact i2)).mp (by rw [List.getElem_map, List.getElem_map, e1, hi2]; exact he2)
        subst this
        rw [← e1, ← hi2]
      subst eeq
      obtain ⟨Tq2, y1, y2, edv, hT2, hy1, hy2⟩ := rt_trip _ _ _ _ p3 htr'
      have edv : dv' = .ref Tq2 := edv
      subst edv
      have hd : IsL H' e'.1 (.ref q) := ⟨q, rfl, hq⟩
      have hpd : Pt.Pit t e'.1 := (hpits.mem e'.1).mp (List.mem_map.mpr ⟨e', henm, rfl⟩)
      have hdl := pit_len hpd
      have hoo := hopt e' henm
      have hmo := Pt.opt_ltG (n := t.length) hoo fun q hq x hx => hq.1.lt x hx
      have hmol := asc_len hoo.am hmo.2
      have hlol := asc_len hoo.al hmo.1
      have etake : (es.take (i + 1)).map (·.1) = (es.take i).map (·.1) ++ [e'.1] := by rw [List.take_add_one, hen, List.map_append]; rfl
      refine ⟨_, pg_name (i := 8) sc_best_plans.nd rfl (Or.inl rfl), ?_⟩
      show RSs _ _ _ [some v, some u, some x, some y, some (.ref F), some b, some l, some m, some (.ref q), wo] H'
      -- told[dug]
      have hbS : ∀ bb ∈ e'.1, bb < t.length := hpd.lt
      refine ss_cons (s_set 9 (P := fun z _ => z = .int (Pt.wsum wt e'.1 + Pt.wsum rf e'.1 - e'.2.1))
        (cv_sub (cv_add (CP.imp (cp_callI GS (wt, e'.1) (hr.mono (by decide)) (ca_v (cv_var 1 rfl) (ca_v (cv_var 8 rfl) ca_nil)) fun vs H3 s3 e => ⟨_, _, e, (hw.m p1).m s3, hd.m s3, (show e'.1.length ≤ 1000 by omega), fun bb hb => (show bb < wt.length by rw [ow.len]; exact hbS bb hb)⟩) fun z H3 _ e => e)
          (CP.imp (cp_callI GS (rf, e'.1) (hr.mono (by decide)) (ca_v (cv_var 2 rfl) (ca_v (cv_var 8 rfl) ca_nil)) fun vs H3 s3 e => ⟨_, _, e, (hf.m p1).m s3, hd.m s3, (show e'.1.length ≤ 1000 by omega), fun bb hb => (show bb < rf.length by rw [orf.len]; exact hbS bb hb)⟩) fun z H3 _ e => e))
          (cv_ixRaw (xs := [.int e'.2.1, y1, y2]) (CP.imp (cv_dgetT (kvs := kvs) (k := lk e'.1) hu (cv_var 4 rfl) (.inr ⟨od, p2⟩) ((cv_var 8 rfl).imp fun z H3 s3 e => ⟨q, e, by rw [lk_kv]; exact s3 _ _ hq⟩) hval) fun z H3 s3 e => ⟨Tq2, e, s3 _ _ hT2⟩) cv_int rfl)) (fun z H3 s3 ez => ?_) (hN := sc_best_plans.nd))
      subst ez
      show RSs _ _ _ [some v, some u, some x, some y, some (.ref F), some b, some l, some m, some (.ref q), some (.int (Pt.wsum wt e'.1 + Pt.wsum rf e'.1 - e'.2.1))] H3
      have liesT : ∀ {H4 : Hp}, Same H3 H4 → ∀ {l' m' wo' b'' pf pc pa pb}, CV (cxOf CX0 P w K mg base ["ground", "worths", "refills", "begun", "told", "best", "least", "most", "dug", "worth"] "best_plans" (defScope s_best_plans) f cdv A outer s H E).nox (.Call (.Name "lies_in" pf) [.Name "begun" pa, .Name "dug" pb] [] pc) [some v, some u, some x, some y, some (.ref F), b'', l', m', some (.ref q), wo'] H4 (.bl true) := fun {H4} s4 {l' m' wo' b'' pf pc pa pb} =>
        CP.imp (cp_callI GL ([], e'.1) (hr.mono (by decide)) (ca_v (cv_var 3 rfl) (ca_v (cv_var 8 rfl) ca_nil)) fun vs H5 s5 e => ⟨_, _, e, ((hy.m p1).m (s3.trans s4)).m s5, (hd.m (s3.trans s4)).m s5, Nat.zero_le _⟩) fun z H5 _ e => e
      have told1 : ∀ {H4 : Hp}, Same H3 H4 → ∀ {l' m' b'' wo' pa pb pc pd pe kk}, CV (cxOf CX0 P w K mg base ["ground", "worths", "refills", "begun", "told", "best", "least", "most", "dug", "worth"] "best_plans" (defScope s_best_plans) f cdv A outer s H E).nox (.Subscript (.Subscript (.Name "told" pa) (.Name "dug" pb) pc) (.Constant (.int 1) kk pd) pe) [some v, some u, some x, some y, some (.ref F), b'', l', m', some (.ref q), wo'] H4 y1 := fun {H4} s4 {l' m' b'' wo' pa pb pc pd pe kk} =>
        cv_ixRaw (xs := [.int e'.2.1, y1, y2]) (CP.imp (cv_dgetT (kvs := kvs) (k := lk e'.1) hu (cv_var 4 rfl) (.inr ⟨od, s4 _ _ (s3 _ _ p2)⟩) ((cv_var 8 rfl).imp fun z H5 s5 e => ⟨q, e, by rw [lk_kv]; exact s5 _ _ (s4 _ _ (s3 _ _ hq))⟩) hval) fun z H5 s5 e => ⟨Tq2, e, s5 _ _ (s4 _ _ (s3 _ _ hT2))⟩) cv_int rfl
      have told2 : ∀ {H4 : Hp}, Same H3 H4 → ∀ {l' m' b'' wo' pa pb pc pd pe kk}, CV (cxOf CX0 P w K mg base ["ground", "worths", "refills", "begun", "told", "best", "least", "most", "dug", "worth"] "best_plans" (defScope s_best_plans) f cdv A outer s H E).nox (.Subscript (.Subscript (.Name "told" pa) (.Name "dug" pb) pc) (.Constant (.int 2) kk pd) pe) [some v, some u, some x, some y, some (.ref F), b'', l', m', some (.ref q), wo'] H4 y2 := fun {H4} s4 {l' m' b'' wo' pa pb pc pd pe kk} =>
        cv_ixRaw (xs := [.int e'.2.1, y1, y2]) (CP.imp (cv_dgetT (kvs := kvs) (k := lk e'.1) hu (cv_var 4 rfl) (.inr ⟨od, s4 _ _ (s3 _ _ p2)⟩) ((cv_var 8 rfl).imp fun z H5 s5 e => ⟨q, e, by rw [lk_kv]; exact s5 _ _ (s4 _ _ (s3 _ _ hq))⟩) hval) fun z H5 s5 e => ⟨Tq2, e, s5 _ _ (s4 _ _ (s3 _ _ hT2))⟩) cv_int rfl
      have p4' : PSt t wt rf ((es.take i).map (·.1)) b l m H3 := p4.m s3
      obtain ⟨b0, hb1, hb2, hb3⟩ : ∃ b0 : Bool, (b0 = true → Pt.PlanOpt t wt rf ((es.take (i + 1)).map (·.1)) (Pt.wsum wt e'.1 + Pt.wsum rf e'.1 - e'.2.1) e'.1 e'.2.2.1 e'.1 e'.2.2.2) ∧
          (b0 = false → ∃ bv ld lo md mo, b = .int bv ∧ RPL H3 (ld, lo) l ∧ RPL H3 (md, mo) m ∧ Pt.PlanOpt t wt rf ((es.take i).map (·.1)) bv ld lo md mo ∧ ¬ bv < Pt.wsum wt e'.1 + Pt.wsum rf e'.1 - e'.2.1) ∧
          ((b = .non ∧ b0 = true) ∨ ∃ bv, b = .int bv ∧ b0 = decide (bv < Pt.wsum wt e'.1 + Pt.wsum rf e'.1 - e'.2.1)) := by
        rcases p4' with ⟨h1, h2⟩ | ⟨bv, ld, lo, md, mo, e, h1, h2, h3⟩
        · refine ⟨true, fun _ => ?_, (fun z => nomatch z), .inl ⟨h2, rfl⟩⟩
          rw [etake, h1]
          exact Pt.planOpt_first hpd hoo
        · by_cases hlt : bv < Pt.wsum wt e'.1 + Pt.wsum rf e'.1 - e'.2.1
          · exact ⟨true, fun _ => by rw [etake]; exact h3.up hpd hoo hlt, (fun z => nomatch z), .inr ⟨bv, e, (decide_eq_true hlt).symm⟩⟩
          · exact ⟨false, (fun z => nomatch z), fun _ => ⟨bv, ld, lo, md, mo, e, h1, h2, h3, hlt⟩, .inr ⟨bv, e, (decide_eq_false hlt).symm⟩⟩
      have pS := p1.trans s3
      refine ss_one (s_if (b := b0) ?_ (fun ht H4 s4 => ?_) (fun hf' H4 s4 => ?_))
      · refine CT.to (CW.ct (cw_and (k := true) (l := b0) (ct_val (liesT (Same.refl _))) fun _ => cw_and1 ?_)) (Bool.true_and _)
        rcases hb3 with ⟨e1, e2⟩ | ⟨bv, e1, e2⟩
        · subst e1 e2
          exact CT.to (CW.ct (cw_or (k := true) (l := false) (CT.to (ct_isN (cv_var 5 rfl)) rfl) fun z => nomatch z)) rfl
        · subst e1 e2
          exact CT.to (CW.ct (cw_or (k := false) (CT.to (ct_isN (cv_var 5 rfl)) (decide_eq_false (fun z => nomatch z))) fun _ => cw_or1 (ct_gt (cv_var 9 rfl) (cv_var 5 rfl)))) (Bool.false_or _)
      · have hnew := hb1 ht
        have hd4 := hd.m (s3.trans s4)
        refine ss_one (s_par3 5 6 7 (A := fun vs H5 => ∃ c d, vs = [.int (Pt.wsum wt e'.1 + Pt.wsum rf e'.1 - e'.2.1), c, d] ∧ RPL H5 (e'.1, e'.2.2.1) c ∧ RPL H5 (e'.1, e'.2.2.2) d)
          (CA.imp (ca_cons (Pa := fun z _ => z = .int (Pt.wsum wt e'.1 + Pt.wsum rf e'.1 - e'.2.1)) (Pr := fun vs H5 => ∃ c d, vs = [c, d] ∧ RPL H5 (e'.1, e'.2.2.1) c ∧ RPL H5 (e'.1, e'.2.2.2) d) (cv_var 9 rfl)
            (CA.imp (ca_cons (Pa := fun c H5 => RPL H5 (e'.1, e'.2.2.1) c) (Pr := fun vs H5 => ∃ d, vs = [d] ∧ RPL H5 (e'.1, e'.2.2.2) d)
              (CP.imp (cp_tup (ca_v (cv_var 8 rfl) (ca_v (told1 s4) ca_nil)) (fun _ _ _ _ e => e) (fun vs _ e => by rw [e]; show 2 ≤ 1000; decide)) fun c H5 s5 ⟨T1, vs, e1, e2, e3⟩ => ⟨T1, _, _, e1, by rw [e2, e3], hd4.m s5, hy1.m ((s3.trans s4).trans s5)⟩)
              (ca_one (CP.imp (cp_tup (ca_v (cv_var 8 rfl) (ca_v (told2 s4) ca_nil)) (fun _ _ _ _ e => e) (fun vs _ e => by rw [e]; show 2 ≤ 1000; decide)) fun c H5 s5 ⟨T1, vs, e1, e2, e3⟩ => (show RPL H5 (e'.1, e'.2.2.2) c from ⟨T1, _, _, e1, by rw [e2, e3], hd4.m s5, hy2.m ((s3.trans s4).trans s5)⟩))) (fun c H5 H6 s h => rt_pl.m _ _ _ _ s h))
              fun vs H5 _ ⟨c, us, e1, hc, d, e2, hd'⟩ => ⟨c, d, by rw [e1, e2], hc, hd'⟩) (mon_eq _)) fun vs H5 _ ⟨z, us, e1, e2, c, d, e3, h1, h2⟩ => ⟨c, d, by rw [e1, e2, e3], h1, h2⟩)
          (fun vs H5 s5 ⟨c, d, ev, hc, hd'⟩ => ⟨_, _, _, ev, ?_⟩) (hN := sc_best_plans.nd))
        exact ⟨_, c, d, _, _, rfl, (pS.trans s4).trans s5, s5 _ _ (s4 _ _ (s3 _ _ p2)), TS.trans p3 (Pz.Same.ts ((s3.trans s4).trans s5)), .inr ⟨_, _, _, _, _, rfl, hc, hd', hnew⟩⟩
      · obtain ⟨bv, ld, lo, md, mo, eb, h1, h2, h3, hnl⟩ := hb2 hf'
        subst eb
        have s34 := s3.trans s4
        have hl1 : RPL H4 (ld, lo) l := rt_pl.m _ _ _ _ s4 h1
        have hm1 : RPL H4 (md, mo) m := rt_pl.m _ _ _ _ s4 h2
        obtain ⟨Tl, l1, l2, rfl, hTl, hl1', hl2'⟩ := hl1
        obtain ⟨Tm, m1, m2, rfl, hTm, hm1', hm2'⟩ := hm1
        refine ss_one (s_if (b := decide (V.int (Pt.wsum wt e'.1 + Pt.wsum rf e'.1 - e'.2.1) = V.int bv)) (CT.to (CW.ct (cw_and (k := true) (l := decide (V.int (Pt.wsum wt e'.1 + Pt.wsum rf e'.1 - e'.2.1) = V.int bv)) (ct_val (liesT s4)) fun _ => cw_and1 (ct_eq (cv_var 9 rfl) (cv_var 5 rfl) rfl))) (Bool.true_and _)) (fun heq H5 s5 => ?_) (fun heq H5 s5 => ?_))
        · have heq : Pt.wsum wt e'.1 + Pt.wsum rf e'.1 - e'.2.1 = bv := by
            have := of_decide_eq_true heq
            injection this
          have bd := Pt.opt_ltG (n := t.length) h3.d fun q hq x hx => hq.2.dug.lt x hx
          have bo := Pt.opt_ltG (n := t.length) h3.o fun q hq x hx => hq.2.opn.lt x hx
          have z1 := asc_len h3.d.al bd.1
          have z2 := asc_len h3.d.am bd.2
          have z3 := asc_len h3.o.al bo.1
          have z4 := asc_len h3.o.am bo.2
          refine ss_cons (s_set 6 (P := fun c H6 => RPL H6 (Pt.inter ld e'.1, Pt.inter lo e'.2.2.1) c) (CP.imp (cp_tup (A := fun vs H6 => ∃ c d, vs = [c, d] ∧ IsL H6 (Pt.inter ld e'.1) c ∧ IsL H6 (Pt.inter lo e'.2.2.1) d)
            (CA.imp (ca_cons (Pa := fun c H6 => IsL H6 (Pt.inter ld e'.1) c) (Pr := fun vs H6 => ∃ d, vs = [d] ∧ IsL H6 (Pt.inter lo e'.2.2.1) d)
              (CP.imp (cp_callI GC (ld, e'.1) (hr.mono (by decide)) (ca_v (v := l1) (cv_ixRaw (xs := [l1, l2]) ((cv_var 6 rfl).imp fun z H6 s6 ev => ⟨Tl, ev, s6 _ _ (s5 _ _ hTl)⟩) cv_int rfl) (ca_v (cv_var 8 rfl) ca_nil)) fun vs H6 s6 ev => ⟨_, _, ev, (hl1'.m s5).m s6, ((hd.m s34).m s5).m s6, (show ld.length ≤ 1000 by omega)⟩) fun c H6 _ h => h)
              (ca_one (CP.imp (cp_callI GC (lo, e'.2.2.1) (hr.mono (by decide)) (ca_v (v := l2) (cv_ixRaw (xs := [l1, l2]) ((cv_var 6 rfl).imp fun z H6 s6 ev => ⟨Tl, ev, s6 _ _ (s5 _ _ hTl)⟩) cv_int rfl) (ca_v (told1 (s4.trans s5)) ca_nil)) fun vs H6 s6 ev => ⟨_, _, ev, (hl2'.m s5).m s6, (hy1.m (s34.trans s5)).m s6, (show lo.length ≤ 1000 by omega)⟩) fun c H6 _ h => h)) (mon_l _))
              fun vs H6 _ ⟨c, us, e1, hc, d, e2, hd'⟩ => ⟨c, d, by rw [e1, e2], hc, hd'⟩) (fun vs H6 H7 s ⟨c, d, ev, h1, h2⟩ => ⟨c, d, ev, h1.m s, h2.m s⟩) (fun vs H6 ⟨c, d, ev, _⟩ => by rw [ev]; show 2 ≤ 1000; decide))
            fun c H6 _ ⟨T1, vs, e1, e2, c', d', e3, hc, hd'⟩ => ⟨T1, c', d', e1, by rw [e2, e3], hc, hd'⟩) (fun c H6 s6 hc => ?_) (hN := sc_best_plans.nd))
          have s56 := s5.trans s6
          refine ss_one (s_set 7 (P := fun c H7 => ∃ ud uo, RPL H7 (ud, uo) c ∧ Pt.Asc ud ∧ (∀ z, z ∈ ud ↔ z ∈ md ∨ z ∈ e'.1) ∧ Pt.Asc uo ∧ ∀ z, z ∈ uo ↔ z ∈ mo ∨ z ∈ e'.2.2.2) (CP.imp (cp_tup (A := fun vs H6 => ∃ c d, vs = [c, d] ∧ rTog (md, e'.1) c H6 ∧ rTog (mo, e'.2.2.2) d H6)
            (CA.imp (ca_cons (Pa := fun c H6 => rTog (md, e'.1) c H6) (Pr := fun vs H6 => ∃ d, vs = [d] ∧ rTog (mo, e'.2.2.2) d H6)
              (CP.imp (cp_callI GT (md, e'.1) (hr.mono (by decide)) (ca_v (v := m1) (cv_ixRaw (xs := [m1, m2]) ((cv_var 7 rfl).imp fun z H7 s7 ev => ⟨Tm, ev, s7 _ _ (s56 _ _ hTm)⟩) cv_int rfl) (ca_v (cv_var 8 rfl) ca_nil)) fun vs H7 s7 ev => ⟨_, _, ev, (hm1'.m s56).m s7, ((hd.m s34).m s56).m s7, (show md.length + e'.1.length < 64 by omega)⟩) fun c H6 _ h => h)
              (ca_one (CP.imp (cp_callI GT (mo, e'.2.2.2) (hr.mono (by decide)) (ca_v (v := m2) (cv_ixRaw (xs := [m1, m2]) ((cv_var 7 rfl).imp fun z H7 s7 ev => ⟨Tm, ev, s7 _ _ (s56 _ _ hTm)⟩) cv_int rfl) (ca_v (told2 (s4.trans s56)) ca_nil)) fun vs H7 s7 ev => ⟨_, _, ev, (hm2'.m s56).m s7, (hy2.m (s34.trans s56)).m s7, (show mo.length + e'.2.2.2.length < 64 by omega)⟩) fun c H6 _ h => h)) (fun c H6 H7 s ⟨u', h1, h2⟩ => ⟨u', h1.m s, h2⟩))
              fun vs H6 _ ⟨c, us, e1, hc, d, e2, hd'⟩ => ⟨c, d, by rw [e1, e2], hc, hd'⟩) (fun vs H6 H7 s ⟨c, d, ev, ⟨u1, h1, h1'⟩, ⟨u2, h2, h2'⟩⟩ => ⟨c, d, ev, ⟨u1, h1.m s, h1'⟩, ⟨u2, h2.m s, h2'⟩⟩) (fun vs H6 ⟨c, d, ev, _⟩ => by rw [ev]; show 2 ≤ 1000; decide))
            fun c H6 _ ⟨T1, vs, e1, e2, c', d', e3, ⟨u1, g1, g2, g3⟩, ⟨u2, g4, g5, g6⟩⟩ => ⟨u1, u2, ⟨T1, c', d', e1, by rw [e2, e3], g1, g4⟩, g2, g3, g5, g6⟩) (fun c' H7 s7 ⟨ud, uo, hc', a1, g1, a2, g2⟩ => ?_) (hN := sc_best_plans.nd))
          exact ⟨_, c, c', _, _, rfl, ((pS.trans s4).trans s56).trans s7, s7 _ _ (s56 _ _ (s34 _ _ p2)), TS.trans p3 (Pz.Same.ts ((s34.trans s56).trans s7)), .inr ⟨bv, _, _, ud, uo, rfl, rt_pl.m _ _ _ _ s7 hc, hc', by rw [etake]; exact h3.both hpd hoo heq a1 g1 a2 g2⟩⟩
        · have hne : Pt.wsum wt e'.1 + Pt.wsum rf e'.1 - e'.2.1 ≠ bv := fun z => (of_decide_eq_false heq) (by rw [z])
          exact ss_nil ⟨_, _, _, _, _, rfl, (pS.trans s4).trans s5, s5 _ _ (s34 _ _ p2), TS.trans p3 (Pz.Same.ts (s34.trans s5)), .inr ⟨bv, ld, lo, md, mo, rfl, ⟨Tl, l1, l2, rfl, s5 _ _ hTl, hl1'.m s5, hl2'.m s5⟩, ⟨Tm, m1, m2, rfl, s5 _ _ hTm, hm1'.m s5, hm2'.m s5⟩, by rw [etake]; exact h3.skip hpd hoo (by omega)⟩⟩
    · obtain ⟨b, l, m, dg, wo, rfl, p1, p2, p3, p4⟩ := st
      have efull : es.take kvs.length = es := List.take_of_length_le (by omega)
      rw [efull] at p4
      have sE : Same H (L2.upd H' F (.dT kvs)) := same_mut p1 hF0
      have tE : TS H' (L2.upd H' F (.dT kvs)) := ts_upd p2 fun xs e => by cases e
      rcases p4 with ⟨h1, h2⟩ | ⟨bv, ld, lo, md, mo, e, h1, h2, h3⟩
      · have := pits_pos hpits
        rw [h1] at this
        exact absurd this (by decide)
      · subst e
        have h1' := rt_pl _ _ _ _ tE h1
        have h2' := rt_pl _ _ _ _ tE h2
        refine ss_one (s_ret (cp_tup (ca_v (cv_var 5 rfl) (ca_v (cv_var 6 rfl) (ca_v (cv_var 7 rfl) ca_nil))) (fun _ _ _ _ e => e) (fun vs _ e => by rw [e]; show 3 ≤ 1000; decide)) fun z H5 s5 ⟨T1, vs, e1, e2, e3⟩ => k z H5 (sE.trans s5) ⟨T1, _, e1, by rw [e2, e3], bv, l, m, ld, lo, md, mo, _, rfl, rt_pl.m _ _ _ _ s5 h1', rt_pl.m _ _ _ _ s5 h2', hpits, h3⟩)
end
end Pz
end
section
set_option Elab.async false
set_option linter.all false
set_option maxRecDepth 100000
set_option maxHeartbeats 4000000
namespace Pz
open PySem PySem.Spec PyProof.Rows L2
section
variable {X : Cx} {a b e : Expr} {es : List Expr} {σ : L2.St} {H : Hp} {p pos p1 pos1 : Pos} {v : V}
theorem ca_vx {Pr : List V → Hp → Prop} (ha : CV X a σ H v) (hr : CA X es σ H Pr) (hs : starEach (a :: es) X.env = (false, eval a X.env) :: starEach es X.env := by rfl) : CA X (a :: es) σ H (fun vs H2 => ∃ r, vs = v :: r ∧ Pr r H2) :=
  CA.imp (ca_cons (Pa := fun z _ => z = v) ha hr (mon_eq _) hs) fun vs H1 _ ⟨z, r, e1, e2, h⟩ => ⟨r, by rw [e1, e2], h⟩
/-- sorted(a list of blocks) -/
theorem cp_sortNats {l : List Nat} (hm : X.mg "sorted" = none) (he : CP X e σ H (fun v H1 => IsLst RNat H1 l v)) (hz : l.length < 64) (hg : Gl X "sorted" := by rfl) (hs : Sg X e := by rfl) (hpl : (backTo pos (starEach [] X.env)).any (·.1) = false := by rfl) :
    CP X (.Call (.Name "sorted" p) [e] [] pos) σ H (fun v H1 => ∃ m, NewL RNat H m v H1 ∧ m.Perm l ∧ m.Pairwise (· ≤ ·)) := fun H0 s0 Q q =>
  ⟨_, pe_callB cr_sorted hg hm (by decide +kernel) (pa_cons re_pe pa_nil hs) (by decide) (by decide) hs hpl, he H0 s0 _ fun v H1 s1 ⟨a, xs, e1, h1, p1⟩ => by
    subst e1
    have exs : xs = (l.map fun n : Nat => (n : Int)).map V.int := by
      have := map_paired (f := fun n : Nat => V.int (n : Int)) p1
      rw [this, List.map_map]; rfl
    rw [exs] at h1
    refine ⟨a, l.map fun n : Nat => (n : Int), rfl, SqL.of h1, by rw [List.length_map]; exact hz, fun ns' r hp ho hr => ?_⟩
    have hall : ∀ k ∈ ns', ∃ n : Nat, k = (n : Int) := fun k hk => by
      obtain ⟨n, _, e⟩ := List.mem_map.mp ((hp.mem_iff).mp hk)
      exact ⟨n, e.symm⟩
    have ex : ns' = (ns'.map Int.toNat).map fun n : Nat => (n : Int) := by
      rw [List.map_map]
      apply Eq.symm
      have : ns'.map ((fun n : Nat => (n : Int)) ∘ Int.toNat) = ns'.map id := List.map_congr_left fun k hk => by
        obtain ⟨n, e⟩ := hall k hk
        rw [e]; rfl
      rw [this, List.map_id]
    refine q _ _ (s1.trans (same_new hr)) ⟨ns'.map Int.toNat, ⟨r, _, rfl, (s0.trans s1).free hr, upd_same, ?_⟩, ?_, ?_⟩
    · have e3 : ns'.map V.int = nv (ns'.map Int.toNat) := by
        have : nv (ns'.map Int.toNat) = ((ns'.map Int.toNat).map fun n : Nat => (n : Int)).map V.int := by rw [List.map_map]; rfl
        rw [this, ← ex]
      rw [e3]
      exact nat_paired _
    · have := hp.map Int.toNat
      rw [List.map_map] at this
      have e2 : l.map (Int.toNat ∘ fun n : Nat => (n : Int)) = l := by
        rw [show (Int.toNat ∘ fun n : Nat => (n : Int)) = id from funext fun n => rfl, List.map_id]
      rw [e2] at this
      exact this
    · rw [List.pairwise_map]
      refine List.Pairwise.imp_of_mem (fun {a b} ha hb hab => ?_) ho
      omega⟩
theorem sorted_one {L l m : List Nat} (hL : Pt.Asc L) (h1 : m.Perm l) (h2 : L.Perm l) (h3 : m.Pairwise (· ≤ ·)) : m = L := by
  have hn : m.Nodup := (h1.trans h2.symm).nodup_iff.mpr hL.nodup
  refine Pt.Asc.ext ?_ hL fun x => (h1.trans h2.symm).mem_iff
  have := h3.and hn
  exact this.imp fun {a b} h => Nat.lt_of_le_of_ne h.1 h.2
/-- tuple(sorted(e)), the ascending L -/
theorem cp_tupSort {L l : List Nat} (hm0 : X.mg "tuple" = none) (hm : X.mg "sorted" = none) (he : CP X e σ H (fun v H1 => IsLst RNat H1 l v)) (hL : Pt.Asc L) (hp : L.Perm l) (hz : L.length < 64) (hg : Gl X "sorted" := by rfl) (hg0 : Gl X "tuple" := by rfl) (hs : Sg X e := by rfl)
    (hs2 : Sg X (.Call (.Name "sorted" p) [e] [] pos) := by rfl) (hpl : (backTo pos (starEach [] X.env)).any (·.1) = false := by rfl) (hpl1 : (backTo pos1 (starEach [] X.env)).any (·.1) = false := by rfl) :
    CP X (.Call (.Name "tuple" p1) [.Call (.Name "sorted" p) [e] [] pos] [] pos1) σ H (fun v H1 => IsL H1 L v) :=
  CP.imp (cp_tupleOf hm0 (CP.imp (cp_sortNats hm he (by rw [← hp.length_eq]; exact hz) hg hs hpl) fun v H1 _ ⟨m, h1, h2, h3⟩ => by rw [← sorted_one hL h2 hp h3]; exact h1.lst) rt_nat.m hg0 hs2 hpl1) fun v H1 _ h => isL_tup.mpr h
end
section
variable {P : Program} {w : World} {K : PySem.W.Frag} {mg : Str → Option Value} {base : Heap}
/-! ### best_refill, least_plan, greatest_plan -/
def rBR (i : GWR) (v : V) (_ : Hp) : Prop := ∃ bv ld lo md mo ps, v = .int bv ∧ Pt.IsPits i.1 ps ∧ Pt.PlanOpt i.1 i.2.1 i.2.2 ps bv ld lo md mo
def rLP (i : GWR) (v : V) (H : Hp) : Prop := ∃ bv ld lo md mo ps, RPL H (ld, lo) v ∧ Pt.IsPits i.1 ps ∧ Pt.PlanOpt i.1 i.2.1 i.2.2 ps bv ld lo md mo
def rGP (i : GWR) (v : V) (H : Hp) : Prop := ∃ bv ld lo md mo ps, RPL H (md, mo) v ∧ Pt.IsPits i.1 ps ∧ Pt.PlanOpt i.1 i.2.1 i.2.2 ps bv ld lo md mo
theorem plans_args {X : Cx} {C : Addr} {i : GWR} {v u x : V} {H : Hp} {a b c : Expr} {pp : Pos} {kk : Nat} {σ : L2.St} (h : IsGWR C i v u x H) (ha : CV X a σ H v) (hb : CV X b σ H u) (hc : CV X c σ H x)
    (h1 : starEach (a :: [b, c, .Tuple [] kk pp]) X.env = (false, eval a X.env) :: starEach [b, c, .Tuple [] kk pp] X.env := by rfl) (h2 : starEach (b :: [c, .Tuple [] kk pp]) X.env = (false, eval b X.env) :: starEach [c, .Tuple [] kk pp] X.env := by rfl)
    (h3 : starEach (c :: [.Tuple [] kk pp]) X.env = (false, eval c X.env) :: starEach [.Tuple [] kk pp] X.env := by rfl) (h4 : Sg X (.Tuple [] kk pp) := by rfl) : CA X [a, b, c, .Tuple [] kk pp] σ H (aPlans C i) :=
  CA.imp (ca_vx ha (ca_vx hb (ca_vx hc (ca_one (P := fun y H1 => IsL H1 [] y) (CP.imp (cp_tup ca_nil (fun _ _ _ _ e => e) (fun vs _ e => by rw [e]; decide)) fun y H1 _ ⟨t, vs, e1, e2, e3⟩ => ⟨t, e1, by rw [e2, e3]; rfl⟩) h4) h3) h2) h1)
    fun vs H1 s ⟨r1, e1, r2, e2, r3, e3, y, e4, hy⟩ => ⟨v, u, x, y, by rw [e1, e2, e3, e4], h.m s, hy⟩
abbrev PBestR (P : Program) (w : World) (K : PySem.W.Frag) (mg : Str → Option Value) (base : Heap) : Prop := Pm P w K mg base "best_refill" 7 ["ground", "worths", "refills"] (SpI (aGWR (CG K)) rBR)
theorem sc_best_refill : FnScope ["ground", "worths", "refills"] ["ground", "worths", "refills"] (defScope s_best_refill) := ⟨rfl, rfl, rfl, by decide +kernel, rfl, by decide +kernel, by decide +kernel⟩
theorem ok_best_refill (GB : PNeedB P w K mg base) (GP : PPlans P w K mg base) (D : Df K mg "best_refill" s_best_refill) : PBestR P w K mg base := by
  refine D.pm sc_best_refill (fun _ _ _ _ _ _ us hl => match us, hl with | [_, _, _], _ => rfl) (fun vs H Q E h => ?_) (fun f cdv A outer s H vs Q E hr h => ?_)
  · obtain ⟨i, ⟨v, u, x, rfl, _⟩, _⟩ := h; rfl
  · obtain ⟨i, ⟨v, u, x, rfl, h⟩, k⟩ := h
    refine ss_cons (s_exprC (cp_callI GB i (hr.mono (by decide)) (ca_v (cv_var 0 rfl) (ca_v (cv_var 1 rfl) (ca_v (cv_var 2 rfl) ca_nil))) (fun vs H1 s1 e => ⟨_, _, _, e, h.m s1⟩)) fun H1 s1 => ?_)
    refine ss_one (s_ret (cp_ixRawEx (Z := ZPlans i) (j := 0) (P' := rBR i) (CP.imp (cp_callI GP i hr (plans_args (h.m s1) (cv_var 0 rfl) (cv_var 1 rfl) (cv_var 2 rfl)) fun vs H2 _ e => e) fun z H2 _ e => e) cv_int zplans_m (fun xs H2 ⟨bv, x', y', ld, lo, md, mo, ps, e, g1, g2, g3, g4⟩ => ⟨.int bv, by rw [e]; rfl, bv, ld, lo, md, mo, ps, rfl, g3, g4⟩)) fun z H2 s2 hz => k z H2 (s1.trans s2) hz)
abbrev PLeastP (P : Program) (w : World) (K : PySem.W.Frag) (mg : Str → Option Value) (base : Heap) : Prop := Pm P w K mg base "least_plan" 7 ["ground", "worths", "refills"] (SpI (aGWR (CG K)) rLP)
theorem sc_least_plan : FnScope ["ground", "worths", "refills"] ["ground", "worths", "refills"] (defScope s_least_plan) := ⟨rfl, rfl, rfl, by decide +kernel, rfl, by decide +kernel, by decide +kernel⟩
theorem ok_least_plan (GB : PNeedB P w K mg base) (GP : PPlans P w K mg base) (D : Df K mg "least_plan" s_least_plan) : PLeastP P w K mg base := by
  refine D.pm sc_least_plan (fun _ _ _ _ _ _ us hl => match us, hl with | [_, _, _], _ => rfl) (fun vs H Q E h => ?_) (fun f cdv A outer s H vs Q E hr h => ?_)
  · obtain ⟨i, ⟨v, u, x, rfl, _⟩, _⟩ := h; rfl
  · obtain ⟨i, ⟨v, u, x, rfl, h⟩, k⟩ := h
    refine ss_cons (s_exprC (cp_callI GB i (hr.mono (by decide)) (ca_v (cv_var 0 rfl) (ca_v (cv_var 1 rfl) (ca_v (cv_var 2 rfl) ca_nil))) (fun vs H1 s1 e => ⟨_, _, _, e, h.m s1⟩)) fun H1 s1 => ?_)
    refine ss_one (s_ret (cp_ixRawEx (Z := ZPlans i) (j := 1) (P' := rLP i) (CP.imp (cp_callI GP i hr (plans_args (h.m s1) (cv_var 0 rfl) (cv_var 1 rfl) (cv_var 2 rfl)) fun vs H2 _ e => e) fun z H2 _ e => e) cv_int zplans_m (fun xs H2 ⟨bv, x', y', ld, lo, md, mo, ps, e, g1, g2, g3, g4⟩ => ⟨x', by rw [e]; rfl, bv, ld, lo, md, mo, ps, g1, g3, g4⟩)) fun z H2 s2 hz => k z H2 (s1.trans s2) hz)
abbrev PGreatP (P : Program) (w : World) (K : PySem.W.Frag) (mg : Str → Option Value) (base : Heap) : Prop := Pm P w K mg base "greatest_plan" 7 ["ground", "worths", "refills"] (SpI (aGWR (CG K)) rGP)
theorem sc_greatest_plan : FnScope ["ground", "worths", "refills"] ["ground", "worths", "refills"] (defScope s_greatest_plan) := ⟨rfl, rfl, rfl, by decide +kernel, rfl, by decide +kernel, by decide +kernel⟩
theorem ok_greatest_plan (GB : PNeedB P w K mg base) (GP : PPlans P w K mg base) (D : Df K mg "greatest_plan" s_greatest_plan) : PGreatP P w K mg base := by
  refine D.pm sc_greatest_plan (fun _ _ _ _ _ _ us hl => match us, hl with | [_, _, _], _ => rfl) (fun vs H Q E h => ?_) (fun f cdv A outer s H vs Q E hr h => ?_)
  · obtain ⟨i, ⟨v, u, x, rfl, _⟩, _⟩ := h; rfl
  · obtain ⟨i, ⟨v, u, x, rfl, h⟩, k⟩ := h
    refine ss_cons (s_exprC (cp_callI GB i (hr.mono (by decide)) (ca_v (cv_var 0 rfl) (ca_v (cv_var 1 rfl) (ca_v (cv_var 2 rfl) ca_nil))) (fun vs H1 s1 e => ⟨_, _, _, e, h.m s1⟩)) fun H1 s1 => ?_)
    refine ss_one (s_ret (cp_ixRawEx (Z := ZPlans i) (j := 2) (P' := rGP i) (CP.imp (cp_callI GP i hr (plans_args (h.m s1) (cv_var 0 rfl) (cv_var 1 rfl) (cv_var 2 rfl)) fun vs H2 _ e => e) fun z H2 _ e => e) cv_int zplans_m (fun xs H2 ⟨bv, x', y', ld, lo, md, mo, ps, e, g1, g2, g3, g4⟩ => ⟨y', by rw [e]; rfl, bv, ld, lo, md, mo, ps, g2, g3, g4⟩)) fun z H2 s2 hz => k z H2 (s1.trans s2) hz)
/-! ### doubled_of, doubled -/
theorem wfg_dbl {t : List (List Nat)} (wf : WfG t) (h5 : t.length ≤ 5) : WfG (Pt.dbl t) := ⟨Pt.dbl_ok wf.ok, by have := Pt.dblN_len t t.length; have := wf.pos; show 1 ≤ (Pt.dblN t t.length).length; omega, by have := Pt.dblN_len t t.length; show (Pt.dblN t t.length).length ≤ 10; omega⟩
def aGs (C : Addr) (t : List (List Nat)) (vs : List V) (H : Hp) : Prop := ∃ v, vs = [v] ∧ IsG C H t v ∧ WfG t ∧ t.length ≤ 5
def rDbl (C : Addr) (t : List (List Nat)) (v : V) (H : Hp) : Prop := IsG C H (Pt.dbl t) v
abbrev PDblOf (P : Program) (w : World) (K : PySem.W.Frag) (mg : Str → Option Value) (base : Heap) : Prop := Pm P w K mg base "doubled_of" 5 ["ground"] (SpI (aGs (CG K)) (rDbl (CG K)))
theorem sc_doubled_of : FnScope ["ground", "found", "block", "firsts", "one"] ["ground"] (defScope s_doubled_of) := ⟨rfl, rfl, rfl, by decide +kernel, rfl, by decide +kernel, by decide +kernel⟩
theorem map_nat {X : Cx} {e : Expr} {σ : L2.St} {H : Hp} {i : Int} {n : Nat} (h : CV X e σ H (.int i)) (e2 : i = (n : Int)) : CP X e σ H (fun v H1 => RNat H1 n v) := CP.imp h fun v H1 _ e => by rw [e, e2]; rfl
theorem ok_doubled_of (T : Tx K mg) (GI : PInit P w K mg base) (D : Df K mg "doubled_of" s_doubled_of) : PDblOf P w K mg base := by
  refine D.pm sc_doubled_of (fun _ _ _ _ _ _ us hl => match us, hl with | [_], _ => rfl) (fun vs H Q E h => ?_) (fun f cdv A outer s H vs Q E hr h => ?_)
  · obtain ⟨i, ⟨v, rfl, _⟩, _⟩ := h; rfl
  · obtain ⟨t, ⟨v, rfl, hg, wf, h5⟩, k⟩ := h
    have tk := wf.ok
    refine ss_cons (s_set 1 (P := fun u H1 => ∃ F, u = .ref F ∧ H F = none ∧ H1 F = some (.lst [])) (CP.imp (cp_lst ca_nil (fun _ _ _ _ e => e) (fun vs _ e => by rw [e]; decide)) fun u H1 _ ⟨F, vs, e1, e2, e3, e4⟩ => ⟨F, e1, e2, by rw [e3, e4]⟩) (fun u H1 s1 ⟨F, eu, hF0, hF⟩ => ?_) (hN := sc_doubled_of.nd))
    subst eu
    refine ss_cons (s_for (Kp := TS) (ds := enm t) (R := RPair RNat IsL) (ci_enumT T.enum (cp_table ((cv_var 0 rfl).imp fun u H2 s2 e => by subst e; exact (hg.m s1).m s2) T.cG T.nT) rt_l)
      (fun H2 i σ' H' => ∃ bl fi xs, σ' = [some v, some (.ref F), bl, fi, none] ∧ Same H H' ∧ TS H2 H' ∧ H' F = some (.lst xs) ∧ Paired (IsL H') (Pt.dblN t i) xs)
      (fun H2 s2 => ⟨none, none, [], rfl, s1.trans s2, fun _ _ h => h, s2 _ _ hF, .nil⟩) (fun H2 i σ' H' _ _ ⟨_, _, _, _, _, p, _⟩ => p)
      (fun H2 i d u σ' H3 H' s2 hd st s3 r => ?_) (fun H2 σ' H' s2 st => ?_))
    · obtain ⟨bl, fi, xs, rfl, p1, p2, p3, p4⟩ := st
      obtain ⟨T', x1, x2, e1, e2, e3, e4⟩ := r
      have e3 : x1 = .int (d.1 : Int) := e3
      subst e3
      have hdt := enm_mem (List.mem_of_getElem? hd)
      have hi : i < t.length := by
        rcases Nat.lt_or_ge i t.length with z | z
        · exact z
        · rw [List.getElem?_eq_none (by rw [enm_len]; exact z)] at hd; cases hd
      have edi : d.1 = i := by
        have := enm_get (List.getElem?_eq_getElem hi : t[i]? = some t[i])
        rw [this] at hd
        rw [← Option.some.inj hd]
      have hdd : t.getD i [] = d.2 := by rw [← edi, List.getD, hdt]; rfl
      have e4 : IsL H' d.2 x2 := e4
      rw [← hdd] at e4
      have hcv := cover_len tk i
      have hc2 := (tk i).2
      refine g_pair 2 3 e1 e2 (hN := sc_doubled_of.nd) ?_
      show RSs _ _ _ [some v, some (.ref F), some (.int (d.1 : Int)), some x2, none] H'
      rw [edi]
      have p1' := p1.trans s3
      have hxl := paired_len p4
      have hdl := Pt.dblN_len t i
      refine ss_cons (s_append (P := fun q H4 => IsL H4 ((t.getD i []).map fun a => 2 * a) q) (xs := xs) (cv_var 1 rfl) (s3 _ _ p3) (by omega) (CP.imp (cp_tupleOf (R := RNat) (ds := ((t.getD i []).filter fun _ => true).map fun a => 2 * a) T.tuple (CP.imp (cp_lc1 [("one", 4)] (j := 4) (fun _ => true) (fun a : Nat => 2 * a) RNat
        (ci_tup ((cv_var 3 rfl).imp fun z H4 s4 e => by subst e; exact isL_tup.mp (e4.m s4)) rt_nat) (fun _ _ s => Same.ts s) rt_nat (by omega) ?_ rfl sc_doubled_of.nd
        (blkOk_by (own := [("one", 4)]) (N := ["ground", "found", "block", "firsts", "one"]) (sc := defScope s_doubled_of) (by decide +kernel)) (fun _ _ _ _ _ => pg_name (i := 4) sc_doubled_of.nd rfl (Or.inl rfl)) (fun _ => rfl)) fun z H4 _ h => lst_of h) rt_nat.m) fun z H4 _ h => by rw [map_filter_true] at h; exact isL_tup.mpr h) (fun q H4 s4 hq hF4 => ?_))
      · intro s0 H0 C cl fp c x' H5 hc s5 hx'
        have hx' : x' = .int (c : Int) := hx'
        subst hx'
        exact ⟨cts_nil, fun _ => map_nat (cv_mul cv_int (cv_var 4 rfl) (.inl ⟨by decide, by decide⟩)) (by omega)⟩
      · have tS : TS H4 (L2.upd H4 F (.lst (xs ++ [q]))) := ts_upd hF4 fun xs q => by cases q
        have sE : Same H (L2.upd H4 F (.lst (xs ++ [q]))) := same_mut (p1'.trans s4) hF0
        have t34 := TS.trans (Pz.Same.ts s4) tS
        have e4' : IsL (L2.upd H4 F (.lst (xs ++ [q]))) (t.getD i []) x2 := rt_l _ _ _ _ t34 e4
        have hL : Pt.Asc ((t.getD i []).map (fun a => 2 * a + 1) ++ [2 * i]) := by
          have := (Pt.dbl_ok tk (2 * i + 1)).1
          have e : (Pt.dbl t).getD (2 * i + 1) [] = (t.getD i []).map (fun a => 2 * a + 1) ++ [2 * i] := (Pt.dblN_get t t.length i hi).2
          rw [e] at this
          exact this
        refine ss_one (s_append (P := fun q' H5 => IsL H5 ((t.getD i []).map (fun a => 2 * a + 1) ++ [2 * i]) q') (xs := xs ++ [q]) (cv_var 1 rfl) upd_same (by rw [List.length_append, List.length_singleton]; omega) (cp_tupSort (l := [2 * i] ++ ((t.getD i []).filter fun _ => true).map fun a => 2 * a + 1) T.tuple T.sorted
          (CP.imp (cp_catL (R := RNat) (ds := [2 * i]) (es' := ((t.getD i []).filter fun _ => true).map fun a => 2 * a + 1) rt_nat.m (CP.imp (cp_lst (A := fun vs _ => vs = [.int (2 * (i : Int))]) (ca_v (cv_mul cv_int (cv_var 2 rfl) (.inl ⟨by decide, by decide⟩)) ca_nil) (fun _ _ _ _ e => e) (fun vs _ e => by rw [e]; show 1 ≤ 1000; decide)) fun z H6 _ ⟨a, vs, g1, _, g3, g4⟩ => ⟨a, vs, g1, g3, by rw [g4]; exact .cons (show V.int (2 * (i : Int)) = V.int ((2 * i : Nat) : Int) by rw [show 2 * (i : Int) = ((2 * i : Nat) : Int) by omega]) .nil⟩)
            (CP.imp (cp_lc1 [("one", 4)] (j := 4) (fun _ => true) (fun a : Nat => 2 * a + 1) RNat
              (ci_tup ((cv_var 3 rfl).imp fun z H6 s6 e => by subst e; exact isL_tup.mp (e4'.m s6)) rt_nat) (fun _ _ s => Same.ts s) rt_nat (by omega) ?_ rfl sc_doubled_of.nd
              (blkOk_by (own := [("one", 4)]) (N := ["ground", "found", "block", "firsts", "one"]) (sc := defScope s_doubled_of) (by decide +kernel)) (fun _ _ _ _ _ => pg_name (i := 4) sc_doubled_of.nd rfl (Or.inl rfl)) (fun _ => rfl)) fun z H6 _ h => lst_of h) (by rw [map_filter_true, List.length_map, List.length_singleton]; omega)) fun z H6 _ h => h.lst)
          hL (by rw [map_filter_true]; exact List.perm_append_comm) (by rw [List.length_append, List.length_map, List.length_singleton]; omega)) (fun q' H5 s5 hq' hF5 => ?_))
        · intro s0 H0 C cl fp c x' H6 hc s6 hx'
          have hx' : x' = .int (c : Int) := hx'
          subst hx'
          exact ⟨cts_nil, fun _ => map_nat (cv_add (cv_mul cv_int (cv_var 4 rfl) (.inl ⟨by decide, by decide⟩)) cv_int) (by omega)⟩
        · have tS5 : TS H5 (L2.upd H5 F (.lst (xs ++ [q] ++ [q']))) := ts_upd hF5 fun xs q => by cases q
          have tA : TS H4 (L2.upd H5 F (.lst (xs ++ [q] ++ [q']))) := TS.trans tS (TS.trans (Pz.Same.ts s5) tS5)
          refine ⟨_, _, xs ++ [q] ++ [q'], rfl, same_mut (sE.trans s5) hF0, TS.trans p2 (TS.trans (Pz.Same.ts (s3.trans s4)) tA), upd_same, ?_⟩
          show Paired (IsL _) (Pt.dblN t i ++ [_, _]) _
          have hA := paired_app (paired_rt rt_l (TS.trans (Pz.Same.ts (s3.trans s4)) tA) p4) (Paired.cons (rt_l _ _ _ _ tA hq) (Paired.cons (rt_l _ _ _ _ tS5 hq') Paired.nil))
          have e : xs ++ [q, q'] = xs ++ [q] ++ [q'] := by simp
          exact Eq.subst (motive := fun ys => Paired (IsL (L2.upd H5 F (.lst (xs ++ [q] ++ [q'])))) (Pt.dblN t i ++ [(t.getD i []).map (fun a => 2 * a), (t.getD i []).map (fun a => 2 * a + 1) ++ [2 * i]]) ys) e hA
    · obtain ⟨bl, fi, xs, rfl, p1, p2, p3, p4⟩ := st
      rw [enm_len] at p4
      refine ss_one (s_ret (cp_mkG (t := Pt.dbl t) T GI (hr.mono (by decide)) (wfg_dbl wf h5) (cp_tupleOf T.tuple ((cv_var 1 rfl).imp fun z H5 s5 e => ⟨F, xs, e, s5 _ _ p3, paired_rm rt_l.m s5 p4⟩) rt_l.m)) fun z H5 s5 h => k z H5 (p1.trans s5) h)
abbrev PDbl (P : Program) (w : World) (K : PySem.W.Frag) (mg : Str → Option Value) (base : Heap) : Prop := Pm P w K mg base "doubled" 6 ["ground"] (SpI (aGs (CG K)) (rDbl (CG K)))
theorem sc_doubled : FnScope ["ground"] ["ground"] (defScope s_doubled) := ⟨rfl, rfl, rfl, by decide +kernel, rfl, by decide +kernel, by decide +kernel⟩
theorem ok_doubled (GN : PNeedS P w K mg base) (GD : PDblOf P w K mg base) (D : Df K mg "doubled" s_doubled) : PDbl P w K mg base := by
  refine D.pm sc_doubled (fun _ _ _ _ _ _ us hl => match us, hl with | [_], _ => rfl) (fun vs H Q E h => ?_) (fun f cdv A outer s H vs Q E hr h => ?_)
  · obtain ⟨i, ⟨v, rfl, _⟩, _⟩ := h; rfl
  · obtain ⟨t, ⟨v, rfl, hg, wf, h5⟩, k⟩ := h
    refine ss_cons (s_exprC (cp_callI GN t (hr.mono (by decide)) (ca_v (cv_var 0 rfl) ca_nil) (fun vs H1 s1 e => ⟨⟨_, e, hg.m s1⟩, h5⟩)) fun H1 s1 => ?_)
    exact ss_one (s_ret (CP.imp (cp_callI GD t hr (ca_v (cv_var 0 rfl) ca_nil) (fun vs H2 s2 e => ⟨_, e, (hg.m s1).m s2, wf, h5⟩)) fun z H2 _ e => e) fun z H2 s2 e => k z H2 (s1.trans s2) e)
end
end Pz
end
section
set_option Elab.async false
set_option linter.all false
set_option maxRecDepth 100000
set_option maxHeartbeats 4000000
namespace Pt
theorem jn_perm {t : Tab} {d o : Lot} (h : Plan t (d, o)) : (jn t.length (d, o)).Perm (d.map (fun b => 2 * b) ++ o.map (fun b => 2 * b + 1)) := by
  have h1 : (jn t.length (d, o)).Nodup := (pit_of_plan h).1.1.nodup
  have h2 : (d.map (fun b => 2 * b) ++ o.map (fun b => 2 * b + 1)).Nodup := by
    rw [List.nodup_append]
    refine ⟨(asc_map h.dug.1 _ fun a b h => by omega).nodup, (asc_map h.opn.1 _ fun a b h => by omega).nodup, fun a ha b hb e => ?_⟩
    obtain ⟨x, _, rfl⟩ := List.mem_map.mp ha
    obtain ⟨y, _, rfl⟩ := List.mem_map.mp hb
    omega
  rw [List.perm_ext_iff_of_nodup h1 h2]
  intro x
  unfold jn
  rw [List.mem_filter, List.mem_range, List.mem_append, List.mem_map, List.mem_map]
  constructor
  · rintro ⟨_, hx⟩
    rcases of_decide_eq_true hx with ⟨h3, h4⟩ | ⟨h3, h4⟩
    · exact .inl ⟨x / 2, h4, by omega⟩
    · exact .inr ⟨x / 2, h4, by omega⟩
  · rintro (⟨y, hy, rfl⟩ | ⟨y, hy, rfl⟩)
    · have := h.dug.lt y hy
      refine ⟨by omega, decide_eq_true (.inl ⟨by omega, ?_⟩)⟩
      rw [show 2 * y / 2 = y by omega]; exact hy
    · have := h.opn.lt y hy
      refine ⟨by omega, decide_eq_true (.inr ⟨by omega, ?_⟩)⟩
      rw [show (2 * y + 1) / 2 = y by omega]; exact hy
end Pt
namespace Pz
open PySem PySem.Spec PyProof.Rows L2
section
variable {P : Program} {w : World} {K : PySem.W.Frag} {mg : Str → Option Value} {base : Heap}
/-! ### doubled_worths -/
def aDW (C : Addr) (i : GWR) (vs : List V) (H : Hp) : Prop := aGWR C i vs H ∧ i.1.length ≤ 5 ∧ ∀ x ∈ Pt.dwN i.2.1 i.2.2 i.1.length, -50 ≤ x ∧ x ≤ 50
def rDW (i : GWR) (v : V) (H : Hp) : Prop := IsW H (Pt.dwN i.2.1 i.2.2 i.1.length) v
abbrev PDW (P : Program) (w : World) (K : PySem.W.Frag) (mg : Str → Option Value) (base : Heap) : Prop := Pm P w K mg base "doubled_worths" 5 ["ground", "worths", "refills"] (SpI (aDW (CG K)) rDW)
theorem sc_doubled_worths : FnScope ["ground", "worths", "refills", "found", "worth", "refill", "number"] ["ground", "worths", "refills"] (defScope s_doubled_worths) := ⟨rfl, rfl, rfl, by decide +kernel, rfl, by decide +kernel, by decide +kernel⟩
theorem dw_ok {t : List (List Nat)} {wt rf : List Int} (h : ∀ x ∈ Pt.dwN wt rf t.length, -50 ≤ x ∧ x ≤ 50) : WOk (Pt.dbl t).length (Pt.dwN wt rf t.length) :=
  ⟨by rw [Pt.dwN_len]; exact (Pt.dblN_len t t.length).symm, fun x hx => (h x hx).1, fun x hx => (h x hx).2⟩
theorem ok_doubled_worths (T : Tx K mg) (GB : PNeedB P w K mg base) (GN : PNeedS P w K mg base) (D : Df K mg "doubled_worths" s_doubled_worths) : PDW P w K mg base := by
  refine D.pm sc_doubled_worths (fun _ _ _ _ _ _ us hl => match us, hl with | [_, _, _], _ => rfl) (fun vs H Q E h => ?_) (fun f cdv A outer s H vs Q E hr h => ?_)
  · obtain ⟨i, ⟨⟨v, u, x, rfl, _⟩, _⟩, _⟩ := h; rfl
  · obtain ⟨⟨t, wt, rf⟩, ⟨⟨v, u, x, rfl, h⟩, h5, hb⟩, k⟩ := h
    obtain ⟨hg, hw, hf, wf, ow, orf⟩ := id h
    have hw : IsW H wt u := hw
    have hf : IsW H rf x := hf
    have hg : IsG (CG K) H t v := hg
    have wf : WfG t := wf
    have ow : WOk t.length wt := ow
    have orf : WOk t.length rf := orf
    have h5 : t.length ≤ 5 := h5
    have hb : ∀ x ∈ Pt.dwN wt rf t.length, -50 ≤ x ∧ x ≤ 50 := hb
    obtain ⟨tk, gW⟩ := T.mostW
    refine ss_cons (s_exprC (cp_callI GB (t, wt, rf) hr (ca_v (cv_var 0 rfl) (ca_v (cv_var 1 rfl) (ca_v (cv_var 2 rfl) ca_nil))) (fun vs H1 s1 e => ⟨_, _, _, e, h.m s1⟩)) fun H1 s1 => ?_)
    refine ss_cons (s_exprC (cp_callI GN t (hr.mono (by decide)) (ca_v (cv_var 0 rfl) ca_nil) (fun vs H2 s2 e => ⟨⟨_, e, hg.m (s1.trans s2)⟩, h5⟩)) fun H2 s2 => ?_)
    have s12 := s1.trans s2
    refine ss_cons (s_set 3 (P := fun u H3 => ∃ F, u = .ref F ∧ H2 F = none ∧ H3 F = some (.lst [])) (CP.imp (cp_lst ca_nil (fun _ _ _ _ e => e) (fun vs _ e => by rw [e]; decide)) fun u H1 _ ⟨F, vs, e1, e2, e3, e4⟩ => ⟨F, e1, e2, by rw [e3, e4]⟩) (fun q H3 s3 ⟨F, eu, hF2, hF⟩ => ?_) (hN := sc_doubled_worths.nd))
    subst eu
    have hF0 : H F = none := s12.free hF2
    have s123 := s12.trans s3
    refine ss_cons (s_for (Kp := TS) (ds := wt.zip rf) (R := RPair RInt RInt) (ci_zipT T.zip ((cv_var 1 rfl).imp fun u H4 s4 e => by subst e; exact isW_tup.mp ((hw.m s123).m s4)) ((cv_var 2 rfl).imp fun u H4 s4 e => by subst e; exact isW_tup.mp ((hf.m s123).m s4)) rt_int rt_int)
      (fun H4 i σ' H' => ∃ a b, σ' = [some v, some u, some x, some (.ref F), a, b, none] ∧ Same H H' ∧ TS H4 H' ∧ H' F = some (.lst (iv (Pt.dwN wt rf i))))
      (fun H4 s4 => ⟨none, none, rfl, s123.trans s4, fun _ _ h => h, s4 _ _ hF⟩) (fun _ _ _ _ _ _ ⟨_, _, _, _, p, _⟩ => p)
      (fun H4 i d q σ' H5 H6 s4 hd st s6 r => ?_) (fun H4 σ' H5 s4 st => ?_))
    · obtain ⟨a, b, rfl, p1, p2, p3⟩ := st
      obtain ⟨T', x1, x2, e1, e2, e3, e4⟩ := r
      have e3 : x1 = .int d.1 := e3
      have e4 : x2 = .int d.2 := e4
      subst e3 e4
      rw [List.getElem?_zip_eq_some] at hd
      have hi : i < t.length := by
        rcases Nat.lt_or_ge i wt.length with z | z
        · rw [← ow.len]; exact z
        · rw [List.getElem?_eq_none z] at hd; cases hd.1
      have ew : wt.getD i 0 = d.1 := by rw [List.getD, hd.1]; rfl
      have er : rf.getD i 0 = d.2 := by rw [List.getD, hd.2]; rfl
      refine g_pair 4 5 e1 e2 (hN := sc_doubled_worths.nd) ?_
      refine ss_one (s_extL (Zp := fun zs _ => zs = [.int (d.1 + d.2), .int (-d.2)]) (xs := iv (Pt.dwN wt rf i)) (cv_var 3 rfl) (s6 _ _ p3) (CP.imp (cp_lst (A := fun vs _ => vs = [.int (d.1 + d.2), .int (-d.2)]) (ca_v (cv_add (cv_var 4 rfl) (cv_var 5 rfl)) (ca_v (cv_neg (cv_var 5 rfl)) ca_nil)) (fun _ _ _ _ e => e) (fun vs _ e => by rw [e]; show 2 ≤ 1000; decide)) fun z H7 _ ⟨F', vs, g1, _, g3, g4⟩ => ⟨F', vs, g1, g3, g4⟩)
        (fun zs H7 e => by rw [e, List.length_map, Pt.dwN_len]; show 2 * i + 2 ≤ 1000; omega) (fun zs H7 s7 ez h7 => ?_))
      subst ez
      refine ⟨_, _, rfl, same_mut ((p1.trans s6).trans s7) hF0, TS.trans (TS.trans p2 (Pz.Same.ts (s6.trans s7))) (ts_upd h7 fun xs q => by cases q), ?_⟩
      rw [upd_same]
      show _ = some (HO.lst (iv (Pt.dwN wt rf i ++ [wt.getD i 0 + rf.getD i 0, -(rf.getD i 0)])))
      rw [ew, er]
      have e : iv (Pt.dwN wt rf i ++ [d.1 + d.2, -d.2]) = iv (Pt.dwN wt rf i) ++ [.int (d.1 + d.2), .int (-d.2)] := List.map_append
      rw [e]
    · obtain ⟨a, b, rfl, p1, p2, p3⟩ := st
      have hz : (wt.zip rf).length = t.length := by rw [List.length_zip, ow.len, orf.len, Nat.min_self]
      rw [hz] at p3
      have eall : (Pt.dwN wt rf t.length).all (fun x => decide (-50 ≤ x) && decide (x ≤ 50)) = true := by
        rw [List.all_eq_true]
        intro x hx
        have := hb x hx
        simp; omega
      have hl : ∀ {H7 : Hp}, Same H5 H7 → IsLst RInt H7 (Pt.dwN wt rf t.length) (.ref F) := fun s7 => ⟨F, _, rfl, s7 _ _ p3, by
        have : ∀ l : List Int, Paired (RInt (fun _ => none)) l (iv l) := fun l => by
          induction l with
          | nil => exact .nil
          | cons a l ih => exact .cons rfl ih
        exact this _⟩
      refine ss_cons (s_guard (CT.to (ct_not (k := true) (ct_val (CP.imp (cv_allOver [("number", 6)] (j := 6) (fun x : Int => decide (-50 ≤ x) && decide (x ≤ 50)) T.all (ci_list ((cv_var 3 rfl).imp fun z H6 s6 e => by subst e; exact hl s6) rt_int.m) (fun _ _ s => s) (by rw [Pt.dwN_len]; omega) ?_ sc_doubled_worths.nd
        (blkOk_by (own := [("number", 6)]) (N := ["ground", "worths", "refills", "found", "worth", "refill", "number"]) (sc := defScope s_doubled_worths) (by decide +kernel)) (fun _ _ _ _ _ => pg_name (i := 6) sc_doubled_worths.nd rfl (Or.inl rfl)) (fun _ => rfl)) fun u H3 _ q => (q.trans (by rw [eall]))))) rfl) fun H6 s6 => ?_)
      · intro s0 H0 C cl fp d q H' hd s7 hx
        have hx : q = .int d := hx
        subst hx
        exact cv_chain op_le op_le (cv_neg (cv_glob (v := .int 50) rfl gW ⟨tk, rfl⟩)) (cv_var 6 rfl) (cv_glob (v := .int 50) rfl gW ⟨tk, rfl⟩)
      · exact ss_one (s_ret (cp_tupleOf T.tuple ((cv_var 3 rfl).imp fun z H7 s7 e => by subst e; exact hl (s6.trans s7)) rt_int.m) fun z H7 s7 h => k z H7 ((p1.trans s6).trans s7) (isW_tup.mpr h))
/-! ### as_pit, of_pit -/
def aAs (C : Addr) (i : List (List Nat) × List Nat × List Nat) (vs : List V) (H : Hp) : Prop := aPlan C i vs H ∧ i.1.length ≤ 5
def rAs (i : List (List Nat) × List Nat × List Nat) (v : V) (H : Hp) : Prop := IsL H (Pt.jn i.1.length i.2) v
abbrev PAs (P : Program) (w : World) (K : PySem.W.Frag) (mg : Str → Option Value) (base : Heap) : Prop := Pm P w K mg base "as_pit" 8 ["ground", "dug", "open_pit"] (SpI (aAs (CG K)) rAs)
theorem sc_as_pit : FnScope ["ground", "dug", "open_pit", "block"] ["ground", "dug", "open_pit"] (defScope s_as_pit) := ⟨rfl, rfl, rfl, by decide +kernel, rfl, by decide +kernel, by decide +kernel⟩
theorem ok_as_pit (T : Tx K mg) (GP : PNeedP P w K mg base) (GN : PNeedS P w K mg base) (D : Df K mg "as_pit" s_as_pit) : PAs P w K mg base := by
  refine D.pm sc_as_pit (fun _ _ _ _ _ _ us hl => match us, hl with | [_, _, _], _ => rfl) (fun vs H Q E h => ?_) (fun f cdv A outer s H vs Q E hr h => ?_)
  · obtain ⟨i, ⟨⟨v, u, x, rfl, _⟩, _⟩, _⟩ := h; rfl
  · obtain ⟨⟨t, dg, op⟩, ⟨⟨v, u, x, rfl, hg, hd, ho, wf, pl⟩, h5⟩, k⟩ := h
    have pl : Pt.Plan t (dg, op) := pl
    have wf : WfG t := wf
    have h5 : t.length ≤ 5 := h5
    have hdl := pit_len pl.dug
    have hol := pit_len pl.opn
    have hdl : dg.length ≤ t.length := hdl
    have hol : op.length ≤ t.length := hol
    refine ss_cons (s_exprC (cp_callI GP (t, dg, op) hr (ca_v (cv_var 0 rfl) (ca_v (cv_var 1 rfl) (ca_v (cv_var 2 rfl) ca_nil))) (fun vs H1 s1 e => ⟨_, _, _, e, hg.m s1, hd.m s1, ho.m s1, wf, pl⟩)) fun H1 s1 => ?_)
    refine ss_cons (s_exprC (cp_callI GN t (hr.mono (by decide)) (ca_v (cv_var 0 rfl) ca_nil) (fun vs H2 s2 e => ⟨⟨_, e, hg.m (s1.trans s2)⟩, h5⟩)) fun H2 s2 => ?_)
    have s12 := s1.trans s2
    have hperm := Pt.jn_perm pl
    refine ss_one (s_ret (cp_tupSort (L := Pt.jn t.length (dg, op)) (l := ((dg.filter fun _ => true).map fun b => 2 * b) ++ ((op.filter fun _ => true).map fun b => 2 * b + 1)) T.tuple T.sorted
      (CP.imp (cp_catL (R := RNat) rt_nat.m
        (CP.imp (cp_lc1 [("block", 3)] (j := 3) (fun _ => true) (fun b : Nat => 2 * b) RNat (ci_tup ((cv_var 1 rfl).imp fun z H3 s3 e => by subst e; exact isL_tup.mp ((hd.m s12).m s3)) rt_nat) (fun _ _ s => Same.ts s) rt_nat (by omega) ?_ rfl sc_as_pit.nd
          (blkOk_by (own := [("block", 3)]) (N := ["ground", "dug", "open_pit", "block"]) (sc := defScope s_as_pit) (by decide +kernel)) (fun _ _ _ _ _ => pg_name (i := 3) sc_as_pit.nd rfl (Or.inl rfl)) (fun _ => rfl)) fun z H3 _ h => lst_of h)
        (CP.imp (cp_lc1 [("block", 3)] (j := 3) (fun _ => true) (fun b : Nat => 2 * b + 1) RNat (ci_tup ((cv_var 2 rfl).imp fun z H3 s3 e => by subst e; exact isL_tup.mp ((ho.m s12).m s3)) rt_nat) (fun _ _ s => Same.ts s) rt_nat (by omega) ?_ rfl sc_as_pit.nd
          (blkOk_by (own := [("block", 3)]) (N := ["ground", "dug", "open_pit", "block"]) (sc := defScope s_as_pit) (by decide +kernel)) (fun _ _ _ _ _ => pg_name (i := 3) sc_as_pit.nd rfl (Or.inl rfl)) (fun _ => rfl)) fun z H3 _ h => lst_of h)
        (by rw [map_filter_true, map_filter_true, List.length_map, List.length_map]; omega)) fun z H3 _ h => h.lst)
      (Pt.pit_of_plan pl).1.1 (by rw [map_filter_true, map_filter_true]; exact hperm) (by rw [hperm.length_eq, List.length_append, List.length_map, List.length_map]; omega)) fun z H3 s3 h => k z H3 (s12.trans s3) h)
    · intro s0 H0 C cl fp c x' H6 hc s6 hx'
      have hx' : x' = .int (c : Int) := hx'
      subst hx'
      exact ⟨cts_nil, fun _ => map_nat (cv_mul cv_int (cv_var 3 rfl) (.inl ⟨by decide, by decide⟩)) (by omega)⟩
    · intro s0 H0 C cl fp c x' H6 hc s6 hx'
      have hx' : x' = .int (c : Int) := hx'
      subst hx'
      exact ⟨cts_nil, fun _ => map_nat (cv_add (cv_mul cv_int (cv_var 3 rfl) (.inl ⟨by decide, by decide⟩)) cv_int) (by omega)⟩
def aOf (C : Addr) (i : List (List Nat) × List Nat) (vs : List V) (H : Hp) : Prop := ∃ v u, vs = [v, u] ∧ IsG C H i.1 v ∧ IsL H i.2 u ∧ WfG i.1 ∧ i.1.length ≤ 5 ∧ Pt.Pit (Pt.dbl i.1) i.2
def rOf (i : List (List Nat) × List Nat) (v : V) (H : Hp) : Prop := RPL H (Pt.ev i.2, Pt.od i.2) v
abbrev POf (P : Program) (w : World) (K : PySem.W.Frag) (mg : Str → Option Value) (base : Heap) : Prop := Pm P w K mg base "of_pit" 7 ["ground", "pit"] (SpI (aOf (CG K)) rOf)
theorem sc_of_pit : FnScope ["ground", "pit", "dug", "block"] ["ground", "pit"] (defScope s_of_pit) := ⟨rfl, rfl, rfl, by decide +kernel, rfl, by decide +kernel, by decide +kernel⟩
theorem ok_of_pit (T : Tx K mg) (GN : PNeedS P w K mg base) (GD : PDblOf P w K mg base) (GP : PNeedPit P w K mg base) (D : Df K mg "of_pit" s_of_pit) : POf P w K mg base := by
  refine D.pm sc_of_pit (fun _ _ _ _ _ _ us hl => match us, hl with | [_, _], _ => rfl) (fun vs H Q E h => ?_) (fun f cdv A outer s H vs Q E hr h => ?_)
  · obtain ⟨i, ⟨v, u, rfl, _⟩, _⟩ := h; rfl
  · obtain ⟨⟨t, l⟩, ⟨v, u, rfl, hg, hl, wf, h5, hp⟩, k⟩ := h
    have hp : Pt.Pit (Pt.dbl t) l := hp
    have wf : WfG t := wf
    have h5 : t.length ≤ 5 := h5
    have hll := pit_len hp
    have hdl : (Pt.dbl t).length = 2 * t.length := Pt.dblN_len t t.length
    refine ss_cons (s_exprC (cp_callI GN t (hr.mono (by decide)) (ca_v (cv_var 0 rfl) ca_nil) (fun vs H1 s1 e => ⟨⟨_, e, hg.m s1⟩, h5⟩)) fun H1 s1 => ?_)
    refine ss_cons (s_exprC (cp_callI GP (Pt.dbl t, l) hr (ca_cons (Pa := fun z H2 => rDbl (CG K) t z H2) (Pr := fun vs _ => vs = [u]) (CP.imp (cp_callI GD t (hr.mono (by decide)) (ca_v (cv_var 0 rfl) ca_nil) fun vs H2 s2 e => ⟨_, e, (hg.m s1).m s2, wf, h5⟩) fun z H2 _ e => e) (ca_v (cv_var 1 rfl) ca_nil) (mon_g _ _))
      (fun vs H2 s2 ⟨z, us, e1, hz, e2⟩ => ⟨z, u, by rw [e1, e2], hz, (hl.m s1).m s2, wfg_dbl wf h5, hp⟩)) fun H2 s2 => ?_)
    have s12 := s1.trans s2
    refine ss_cons (s_set 2 (P := fun z H3 => IsL H3 (Pt.ev l) z) (CP.imp (cp_tupleOf T.tuple (CP.imp (cp_lc1 [("block", 3)] (j := 3) (fun b : Nat => decide (b % 2 = 0)) (fun b : Nat => b / 2) RNat (ci_tup ((cv_var 1 rfl).imp fun z H3 s3 e => by subst e; exact isL_tup.mp ((hl.m s12).m s3)) rt_nat) (fun _ _ s => Same.ts s) rt_nat (by omega) ?_ rfl sc_of_pit.nd
          (blkOk_by (own := [("block", 3)]) (N := ["ground", "pit", "dug", "block"]) (sc := defScope s_of_pit) (by decide +kernel)) (fun _ _ _ _ _ => pg_name (i := 3) sc_of_pit.nd rfl (Or.inl rfl)) (fun _ => rfl)) fun z H3 _ h => lst_of h) rt_nat.m) fun z H3 _ h => isL_tup.mpr h) (fun z H3 s3 hz => ?_) (hN := sc_of_pit.nd))
    · intro s0 H0 C cl fp c x' H6 hc s6 hx'
      have hx' : x' = .int (c : Int) := hx'
      subst hx'
      exact ⟨cts_one (CT.to (ct_eq (x := .int ((c : Int) % 2)) (y := .int 0) (cv_mod (cv_var 3 rfl) cv_int (by decide)) cv_int rfl) (decide_eq_decide.mpr ⟨fun h => by injection h with h; omega, fun h => by congr 1; omega⟩)), fun _ => map_nat (cv_div (cv_var 3 rfl) cv_int ⟨by decide, by decide⟩) (by omega)⟩
    · refine ss_one (s_ret (cp_tup (A := fun vs H4 => ∃ y, vs = [z, y] ∧ IsL H4 (Pt.od l) y) (CA.imp (ca_vx (v := z) (cv_var 2 rfl) (ca_one (P := fun y H4 => IsL H4 (Pt.od l) y) (CP.imp (cp_tupleOf T.tuple (CP.imp (cp_lc1 [("block", 3)] (j := 3) (fun b : Nat => decide (b % 2 = 1)) (fun b : Nat => b / 2) RNat (ci_tup ((cv_var 1 rfl).imp fun z H4 s4 e => by subst e; exact isL_tup.mp (((hl.m s12).m s3).m s4)) rt_nat) (fun _ _ s => Same.ts s) rt_nat (by omega) ?_ rfl sc_of_pit.nd
          (blkOk_by (own := [("block", 3)]) (N := ["ground", "pit", "dug", "block"]) (sc := defScope s_of_pit) (by decide +kernel)) (fun _ _ _ _ _ => pg_name (i := 3) sc_of_pit.nd rfl (Or.inl rfl)) (fun _ => rfl)) fun z H3 _ h => lst_of h) rt_nat.m) fun z H3 _ h => isL_tup.mpr h))) fun vs H4 _ ⟨r, e1, y, e2, h⟩ => ⟨y, by rw [e1, e2], h⟩) (fun vs H4 H5 s ⟨y, e, h⟩ => ⟨y, e, h.m s⟩) (fun vs H4 ⟨y, e, _⟩ => by rw [e]; show 2 ≤ 1000; decide)) fun q H4 s4 ⟨T1, vs, e1, e2, y, e3, hy⟩ => k q H4 ((s12.trans s3).trans s4) ⟨T1, z, y, e1, by rw [e2, e3], hz.m s4, hy⟩)
      intro s0 H0 C cl fp c x' H6 hc s6 hx'
      have hx' : x' = .int (c : Int) := hx'
      subst hx'
      exact ⟨cts_one (CT.to (ct_eq (x := .int ((c : Int) % 2)) (y := .int 1) (cv_mod (cv_var 3 rfl) cv_int (by decide)) cv_int rfl) (decide_eq_decide.mpr ⟨fun h => by injection h with h; omega, fun h => by congr 1; omega⟩)), fun _ => map_nat (cv_div (cv_var 3 rfl) cv_int ⟨by decide, by decide⟩) (by omega)⟩
end
end Pz
end
section
set_option Elab.async false
set_option linter.all false
set_option maxRecDepth 100000
set_option maxHeartbeats 4000000
namespace Pz
open PySem PySem.Spec PyProof.Rows L2
/-! ### data of lots -/
def lotD (l : List Nat) : PyData := .tuple (l.map fun n : Nat => PyData.int (n : Int))
theorem lay_ints : ∀ l : List Nat, PyData.canLayAll0 (l.map fun n : Nat => PyData.int (n : Int)) = true
  | [] => by simp [PyData.canLayAll0]
  | x :: l => by
    rw [List.map_cons]
    simp only [PyData.canLayAll0, PyData.canLay0, lay_ints l, Bool.and_self]
theorem dep_ints (l : List Nat) : PyData.depthAll (l.map fun n : Nat => PyData.int (n : Int)) = 0 := by rw [ints_all]; exact PySem.W.depth_ints _
theorem shaped_listN (l : List Nat) : SeqAt.shaped (.list (l.map fun n : Nat => PyData.int (n : Int))) = true := by
  unfold SeqAt.shaped
  simp only [PyData.canLay0, PyData.depth, lay_ints, dep_ints]
  decide
theorem shaped_lot (l : List Nat) : SeqAt.shaped (lotD l) = true := by
  unfold SeqAt.shaped lotD
  simp only [PyData.canLay0, PyData.depth, lay_ints, dep_ints]
  decide
theorem dp_lot {K : PySem.W.Frag} {H : Hp} {l : List Nat} {v : V} (h : IsL H l v) : Dp K H v (lotD l) := by
  obtain ⟨a, rfl, h⟩ := h
  exact .tup (SqT.of h) (dpAll_nv l)
theorem eqvAll_ints : ∀ l m : List Nat, PyData.eqvAll (l.map fun n : Nat => PyData.int (n : Int)) (m.map fun n : Nat => PyData.int (n : Int)) = decide (l = m)
  | [], [] => by simp [PyData.eqvAll]
  | [], b :: m => by simp [PyData.eqvAll]
  | a :: l, [] => by simp [PyData.eqvAll]
  | a :: l, b :: m => by
    rw [List.map_cons, List.map_cons]
    simp only [PyData.eqvAll, PyData.eqv, eqvAll_ints l m]
    by_cases h : a = b
    · subst h; simp
    · have : ¬ (a : Int) = (b : Int) := by omega
      simp [h, this]
theorem eqv_lot (l m : List Nat) : PyData.eqv (lotD l) (lotD m) = decide (l = m) := by
  unfold lotD
  simp only [PyData.eqv, eqvAll_ints]
/-- xs[i], by values -/
theorem get_listP {X : Cx} : PGet X (rIxL X.K) := by
  intro pins s σ H x y v u Q I rx ry h
  obtain ⟨p, xs, i, z, rfl, rfl, hq, he, q⟩ := h
  cases rx
  obtain ⟨t, rfl⟩ := ry
  obtain ⟨its, r, pl, hz⟩ := I.list hq
  obtain ⟨j, h1, h2, h3, h4, h5⟩ := atI_get he
  obtain ⟨w, ew, rw'⟩ := r.get h2
  have hl := r.length
  have hn := line63
  have fin : EP X pins σ Q w s := ⟨z, H, I, rw', q⟩
  by_cases h0 : 0 ≤ i
  · have hj : i.toNat = j := by
      rw [seqIndex_of h0 h5] at h1
      exact Option.some.inj h1
    exact wpAny_getItem_list pl.isList h0 (by omega) (by rw [hj]; simpa using ew) fin
  · have hj : (i + (its.toArray.size : Int)).toNat = j := by
      rw [seqIndex_neg (by omega) h4] at h1
      rw [List.size_toArray, ← hl]
      exact Option.some.inj h1
    exact wpAny_getItem_list_neg pl.isList (by omega) (by rw [List.size_toArray] <;> omega) (by omega) (by rw [hj]; simpa using ew) fin
section
variable {X : Cx} {o i e f a b c tg it : Expr} {es : List Expr} {body : List Stmt} {σ : L2.St} {H : Hp} {P Pi Pa Pb : V → Hp → Prop} {D : Ends} {d l : Addr} {xs : List V} {pos p apos cpos tpos spos : Pos}
theorem op_arith {op : Operator} {g : Int → Int → Int} (hp : PIp X op (ipI g)) {k x y : Int} {j : Nat} (ho : CV X o σ H (.ref l)) (hl : H l = some (.lst xs)) (hi : CV X i σ H (.int k)) (hx : atI xs k = some (.int x)) (hj : ixN xs.length k = some j) (he : CV X e σ H (.int y)) (q : ∀ H1, Same H H1 → H1 l = some (.lst xs) → D.nx σ (L2.upd H1 l (.lst (xs.set j (.int (g x y))))))
    (ha : ∀ ov iv new, augStore i ov iv new = (do holding [new, ov, iv] (setItem ov iv new); release [new, ov, iv] []; pure .next) := by intros; rfl) : RS X (.AugAssign (.Subscript o i tpos) op e pos) D σ H :=
  ⟨_, ps_augS re_pe re_pe get_listP re_pe hp set_list ha, ho H (Same.refl _) _ fun v H1 s1 ev => hi H1 s1 _ fun w H2 s2 ew => by
    subst ev ew
    refine ⟨l, xs, k, .int x, rfl, rfl, SqL.of ((s1.trans s2) _ _ hl), hx, he H2 (s1.trans s2) _ fun z H3 s3 ez => ?_⟩
    subst ez
    exact ⟨x, y, rfl, rfl, l, xs, k, j, rfl, rfl, ((s1.trans s2).trans s3) _ _ hl, hj, q H3 ((s1.trans s2).trans s3) (((s1.trans s2).trans s3) _ _ hl)⟩⟩
/-- sorted(a dict of pairs) -/
theorem cp_sortD {kv : List (List L2.Key × V)} {ks : List NN} (hm : X.mg "sorted" = none) (hu : X.A.units + 200 < cLine) (ho : CV X o σ H (.ref d)) (hd : H d = some (.dT kv)) (hk : kv.map (·.1) = ks.map ky) (hc : X.calm = true := by rfl) (hg : Gl X "sorted" := by rfl) (hs : Sg X o := by rfl) (hpl : (backTo pos (starEach [] X.env)).any (·.1) = false := by rfl) :
    CP X (.Call (.Name "sorted" p) [o] [] pos) σ H (NewL RNN H (ks.mergeSort leP)) := fun H0 s0 Q q =>
  ⟨_, pe_callB (cr_sortD hc hu) hg hm (by decide +kernel) (pa_cons re_pe pa_nil hs) (by decide) (by decide) hs hpl, ho H0 s0 _ fun v H1 s1 ev => by
    subst ev
    exact ⟨d, kv, ks, rfl, (s0.trans s1) _ _ hd, hk, fun p H' out sH hp ho' hh => q _ H' (s1.trans sH) ⟨p, out, rfl, (s0.trans s1).free hp, hh, ho'⟩⟩⟩
/-- for over a list that a call gives -/
theorem s_forLA {δ : Type} {Z : List δ → Prop} {R : Rel δ} (he : CP X it σ H (fun v H1 => ∃ ds a xs, Z ds ∧ v = .ref a ∧ H a = none ∧ H1 a = some (.lst xs) ∧ Paired (R H1) ds xs)) (rt : RT1 R) (Pv : List δ → Addr → List V → Hp → Nat → L2.St → Hp → Prop) (h0 : ∀ ds a xs H2, Same H H2 → H a = none → H2 a = some (.lst xs) → Z ds → Pv ds a xs H2 0 σ H2)
    (hK : ∀ ds a xs H2 i σ' H', Pv ds a xs H2 i σ' H' → TS H2 H' ∧ H' a = some (.lst xs))
    (turn : ∀ ds a xs H2 i d x σ' H', Z ds → Same H H2 → H a = none → ds[i]? = some d → Pv ds a xs H2 i σ' H' → R H' d x → RG X tg x σ' H' fun σ3 H4 => RSs X body { D with nx := Pv ds a xs H2 (i + 1), ct := Pv ds a xs H2 (i + 1), bk := D.nx } σ3 H4)
    (hd : ∀ ds a xs H2 σ' H', Z ds → Same H H2 → Pv ds a xs H2 ds.length σ' H' → D.nx σ' H') (hp : PassesOwn (model X.prog X.w) X.A X.env X.xe := by exact PassesOwn.never) (hc : X.calm = true := by rfl)
    (hs : ∀ x, foldedSetIterable it X.env x = pure x := by intro _; rfl) : RS X (.For tg it body [] pos) D σ H :=
  ⟨_, ps_for hp hc (pi_list re_pe) rg_pg rss_pss hs, he H (Same.refl H) _ fun v H2 s2 ⟨ds, a, xs, z, e1, h00, h1, pr⟩ => ⟨a, e1, ⟨xs, SqL.of h1⟩, for_it (walk_list (xs := xs)) (Pv ds a xs H2) (h0 ds a xs H2 s2 h00 h1 z) (fun i σ' H' hi p => SqL.of (hK ds a xs H2 i σ' H' p).2)
    (fun i x σ' H3 H' hi p ⟨e2, e3⟩ => by
      subst e2
      obtain ⟨d, q1, q2⟩ := paired_getR pr e3
      exact turn ds a xs H2 i d x σ' _ z s2 h00 q1 p (rt _ _ _ _ (hK ds a xs H2 i σ' _ p).1 q2)) fun σ' H' p => hd ds a xs H2 σ' H' z s2 (by rw [paired_len pr]; exact p)⟩⟩
/-- range(n - 1, 0, -1) -/
theorem ci_range3 {i j : Int} (hm : X.mg "range" = none) (ha : CV X a σ H (.int i)) (hb : CV X b σ H (.int j)) (hcc : CV X c σ H (.int (-1))) (hn : -100000 ≤ i ∧ i ≤ 100000 ∧ -100000 ≤ j ∧ j ≤ 100000) (hg : Gl X "range" := by rfl)
    (hs : starEach [a, b, c] X.env = (false, eval a X.env) :: starEach [b, c] X.env := by rfl) (hs2 : starEach [b, c] X.env = (false, eval b X.env) :: starEach [c] X.env := by rfl) (hs3 : starEach [c] X.env = (false, eval c X.env) :: starEach [] X.env := by rfl) (hpl : (backTo pos (starEach [b, c] X.env)).any (·.1) = false := by rfl) :
    CI X tg (.Call (.Name "range" p) [a, b, c] [] pos) σ H (fun _ _ => True) ((List.range (i - j).toNat).map fun k : Nat => i - (k : Int)) RInt := fun H1 s1 Rc k =>
  ⟨_, pi_range3 hg hm (pa_cons re_pe (pa_cons re_pe (pa_cons re_pe pa_nil hs3) hs2) hs) hs hpl, ha H1 s1 _ fun v H2 s2 pv => hb H2 (s1.trans s2) _ fun u H3 s3 pu => hcc H3 ((s1.trans s2).trans s3) _ fun z H4 s4 pz => by
    subst pv pu pz
    refine ⟨i, j, -1, (i - j).toNat, rfl, RgC.neg (by omega) (by omega) (by omega) (by omega), k _ H4 ((s2.trans s3).trans s4) ?_⟩
    rw [List.length_map, List.length_range]
    exact walk_rangeC.mono (fun _ _ => trivial) fun n H5 x H' hn _ ⟨e1, e2⟩ => by
      subst e1
      refine ⟨Same.refl _, i - (n : Int), ?_, ?_⟩
      · rw [List.getElem?_map, List.getElem?_range hn]; rfl
      · rw [e2]; show V.int (i + (n : Int) * (-1)) = V.int (i - (n : Int)); congr 1; omega⟩
/-- xs != [] of ints -/
theorem ct_neNil {ns : List Nat} (hu : X.A.units + 64 < cLine) (ho : CV X o σ H (.ref l)) (hl : H l = some (.lst (nv ns))) : CT X (.Compare o [.NotEq] [.List [] p] pos) σ H (!ns.isEmpty) :=
  ct_cmp (op_neD hu) ho (cp_lst (A := fun vs _ => vs = []) ca_nil (fun _ _ _ _ e => e) (fun vs _ e => by rw [e]; decide)) (mon_eq _) (nomark _) fun x y H1 s1 ex ⟨t, vs, ey, _, hy, ev⟩ Q k => by
    subst ex ey ev
    refine ⟨.list (ns.map fun n : Nat => PyData.int (n : Int)), .list [], .lst (SqL.of (s1 _ _ hl)) (dpAll_nv ns), .lst (SqL.of hy) .nil, ?_, by decide +kernel, ?_⟩
    · exact shaped_listN ns
    · have e : PyData.eqv (.list (ns.map fun n : Nat => PyData.int (n : Int))) (.list []) = ns.isEmpty := by
        cases ns with
        | nil => simp [PyData.eqv, PyData.eqvAll]
        | cons a l => simp [PyData.eqv, PyData.eqvAll]
      rw [e]
      exact k H1 (Same.refl _)
/-- name = o.pop(0) -/
theorem re_pop0 {x : V} {Q : VK} (ho : CV X o σ H (.ref l)) (hl : H l = some (.lst (x :: xs))) (q : ∀ H1, Same H H1 → H1 l = some (.lst (x :: xs)) → Q x (L2.upd H1 l (.lst xs))) {kk : Nat} {kp : Pos}
    (hbase : attributeBase o "pop" X.env (eval o X.env) = eval o X.env := by rfl)
    (hfew : ((backTo cpos (starEach (.Constant (.int 0) kk kp :: []) X.env)).all (fun x => !x.1) && (backToKw cpos (keywordEach [] X.env)).all (fun x => x.1.isSome)
      && decide ((Expr.Constant (.int 0) kk kp :: []).length + ([] : List Keyword).length + (if ([] : List Keyword).isEmpty then 0 else 1) < 30)) = true := by rfl)
    (hline : (apos.endLine == cpos.line) = true := by rfl) (hs : Sg X (.Constant (.int 0) kk kp) := by rfl) (hpl : (backTo cpos (starEach [] X.env)).any (·.1) = false := by rfl) :
    RE X (.Call (.Attribute o "pop" apos) [.Constant (.int 0) kk kp] [] cpos) σ H Q :=
  ⟨_, pe_bm F.plainAttrs_list F.slot_list_pop F.type_list_pop mt_popAt re_pe (pa_cons re_pe pa_nil hs) hbase hfew hline hs hpl, ho H (Same.refl _) _ fun v H1 s1 ev => by
    subst ev
    refine ⟨Or.inl ⟨rfl, _, SqL.of (s1 _ _ hl)⟩, (cv_int : CV X (.Constant (.int 0) kk kp) σ H1 (.int 0)) H1 (Same.refl _) _ fun u H2 s2 eu => ?_⟩
    subst eu
    refine ⟨l, x :: xs, 0, 0, x, rfl, rfl, (s1.trans s2) _ _ hl, by decide, by decide, ?_, rfl, q H2 (s1.trans s2) ((s1.trans s2) _ _ hl)⟩
    exact seqIndex_of (by decide) (by simp)⟩
end
end Pz
end
section
set_option Elab.async false
set_option linter.all false
set_option maxRecDepth 100000
set_option maxHeartbeats 4000000
namespace Pz
open PySem PySem.Spec PyProof.Rows L2
/-! ### the dict of payments -/
def kvV (kvs : List Pt.Ent) : List (List L2.Key × V) := kvs.map fun e => (ky e.1, V.int e.2)
theorem ky_kv (k : NN) : (ky k).map kV = [V.int (k.1 : Int), V.int (k.2 : Int)] := rfl
theorem ky_inj {a b : NN} (h : ky a = ky b) : a = b := by
  unfold ky at h
  injection h with h1 h2
  injection h2 with h2
  injection h1 with h1
  injection h2 with h2
  exact Prod.ext (by omega) (by omega)
theorem ky_iff {a b : NN} : ky a = ky b ↔ a = b := ⟨ky_inj, fun h => by rw [h]⟩
theorem kvV_keys (kvs : List Pt.Ent) : (kvV kvs).map (·.1) = (kvs.map (·.1)).map ky := by unfold kvV; rw [List.map_map, List.map_map]; rfl
theorem valV_kvV (k : NN) : ∀ kvs : List Pt.Ent, valV (kvV kvs) (ky k) = (Pt.alook kvs k).map V.int
  | [] => rfl
  | e :: kvs => by
    rw [Pt.alook_cons]
    by_cases h : e.1 = k
    · rw [if_pos h]
      exact valV_pos (show (ky e.1, V.int e.2).1 = ky k by rw [h])
    · rw [if_neg h]
      have := valV_kvV k kvs
      rw [← this]
      exact valV_neg (p := (ky e.1, V.int e.2)) (fun z => h (ky_inj z))
theorem kvV_any (k : NN) (kvs : List Pt.Ent) : ((kvV kvs).any fun kv => decide (kv.1 = ky k)) = kvs.any fun e => decide (e.1 = k) := by
  unfold kvV
  rw [List.any_map]
  congr 1
  funext e
  show decide (ky e.1 = ky k) = decide (e.1 = k)
  exact decide_eq_decide.mpr ky_iff
theorem putK_kvV (kvs : List Pt.Ent) (k : NN) (v : Int) : putK (kvV kvs) (ky k) (.int v) = kvV (Pt.aput kvs k v) := by
  unfold putK Pt.aput
  rw [kvV_any]
  by_cases h : (kvs.any fun e => decide (e.1 = k)) = true
  · rw [if_pos h, if_pos h]
    unfold kvV
    rw [List.map_map, List.map_map]
    apply List.map_congr_left
    intro e _
    show (if ky e.1 = ky k then (ky e.1, V.int v) else (ky e.1, V.int e.2)) = (ky (if e.1 = k then (e.1, v) else e).1, V.int (if e.1 = k then (e.1, v) else e).2)
    by_cases he : e.1 = k
    · rw [if_pos he, if_pos (by rw [he])]
    · rw [if_neg he, if_neg (fun z => he (ky_inj z))]
  · rw [if_neg h, if_neg h]
    unfold kvV
    rw [List.map_append]
    rfl
theorem putF_le (f : Str) (v : V) : ∀ fs : List (Str × V), (putF f v fs).length ≤ fs.length + 1
  | [] => Nat.le_refl _
  | (g, x) :: r => by
    unfold putF
    split
    · exact Nat.le_succ _
    · exact Nat.succ_le_succ (putF_le f v r)
theorem putF_3 {f g h : Str} {v u z : V} : (putF f v (putF g u (putF h z []))).length < 1000 := by
  have := putF_le f v (putF g u (putF h z []))
  have := putF_le g u (putF h z [])
  have := putF_le h z []
  have : ([] : List (Str × V)).length = 0 := rfl
  omega
theorem putF_2 {g h : Str} {u z : V} : (putF g u (putF h z [])).length < 1000 := by
  have := putF_le g u (putF h z [])
  have := putF_le h z []
  have : ([] : List (Str × V)).length = 0 := rfl
  omega
theorem putF_1 {h : Str} {z : V} : (putF h z []).length < 1000 := by
  have := putF_le h z []
  have : ([] : List (Str × V)).length = 0 := rfl
  omega
/-! ### purses -/
def fsU (TL L : Addr) (vw : V) (G : Addr) : List (Str × V) := putF "given" (.ref G) (putF "first" vw (putF "left" (.ref L) (putF "told" (.ref TL) [])))
structure Pur (C : Addr) (wt : List Int) (cs : List (List Nat)) (kvs : List Pt.Ent) (left : List Int) (P L G TL : Addr) (H : Hp) : Prop where
  obj : ∃ dx vw, H P = some (.ins C dx (fsU TL L vw G)) ∧ IsW H wt vw
  told : ∃ xs, H TL = some (.lst xs) ∧ Paired (IsL H) cs xs
  left : H L = some (.lst (iv left))
  given : H G = some (.dT (kvV kvs))
  ne : TL ≠ L
theorem Pur.m {C : Addr} {wt : List Int} {cs : List (List Nat)} {kvs : List Pt.Ent} {left : List Int} {P L G TL : Addr} {H H' : Hp} (s : Same H H') (h : Pur C wt cs kvs left P L G TL H) : Pur C wt cs kvs left P L G TL H' :=
  ⟨let ⟨dx, vw, h1, h2⟩ := h.obj; ⟨dx, vw, s _ _ h1, h2.m s⟩, let ⟨xs, h1, h2⟩ := h.told; ⟨xs, s _ _ h1, paired_rm rt_l.m s h2⟩, s _ _ h.left, s _ _ h.given, h.ne⟩
/-- what is known of the ground and the payments -/
structure PurOk (t : List (List Nat)) (wt : List Int) (cs : List (List Nat)) (kvs : List Pt.Ent) (left : List Int) : Prop where
  tab : Pt.TabOk t
  le : t.length ≤ 10
  told : Pt.Told t cs
  cov : ∀ c ∈ cs, Pt.Asc c ∧ ∀ x ∈ c, x < t.length
  flow : Pt.FlowOk t wt kvs left
section
variable {P : Program} {w : World} {K : PySem.W.Frag} {mg : Str → Option Value} {base : Heap}
/-- all but what stands at a -/
def But1 (a : Addr) (H H' : Hp) : Prop := ∀ b o, b ≠ a → H b = some o → H' b = some o
def spUInit (C CU : Addr) : Sp := fun vs H Q _ => ∃ (x dx : Addr) (v u : V) (t : List (List Nat)) (wt : List Int), vs = [.ref x, v, u] ∧ H x = some (.ins CU dx []) ∧ IsG C H t v ∧ IsW H wt u ∧ WfG t ∧ wt.length = t.length ∧
  ∀ H' L G TL cs, But1 x H H' → H L = none → H G = none → Pur CU wt cs [] wt x L G TL H' → PurOk t wt cs [] wt → Q .non H'
abbrev PUInit (P : Program) (w : World) (K : PySem.W.Frag) (mg : Str → Option Value) (base : Heap) : Prop := PmM P w K mg base (He.ma K (CU K) "__init__") 2 ["self", "ground", "worths"] (spUInit (CG K) (CU K))
theorem sc_P_init : FnScope ["self", "ground", "worths"] ["self", "ground", "worths"] (defScope s_P_init) := ⟨rfl, rfl, rfl, by decide +kernel, rfl, by decide +kernel, by decide +kernel⟩
theorem ok_P_init (T : Tx K mg) (GC : PCovers P w K mg base) (D : DfM K (CU K) "__init__" "Purses.__init__" s_P_init (He.ma K (CU K) "__init__")) : PUInit P w K mg base := by
  refine D.pm sc_P_init (fun _ _ _ _ _ _ us hl => match us, hl with | [_, _, _], _ => rfl) (fun vs H Q E h => ?_) (fun cdv A outer s H vs Q E hr h => ?_)
  · obtain ⟨x, dx, v, u, t, wt, rfl, _⟩ := h; rfl
  · obtain ⟨x, dx, v, u, t, wt, rfl, hx, hg, hw, wf, hl, k⟩ := h
    refine ss_cons (s_fld (P := rTold t) (CP.imp (cp_callI GC t hr (ca_v (cv_var 1 rfl) ca_nil) fun vs H1 s1 e => ⟨v, e, hg.m s1, wf⟩) fun z H1 _ e => e) (cv_var 0 rfl) hx T.cU T.nTold (by decide) (fun vt H1 s1 ⟨cs, hc1, hc2, TL, xs, evt, hTL, hpr⟩ => ?_) (fun z H1 H2 s ⟨cs, h1, h2, h3⟩ => ⟨cs, h1, h2, rm_lst rt_l.m _ _ _ _ s h3⟩))
    subst evt
    have b1 : But1 x H (L2.upd H1 x (.ins (CU K) dx (putF "told" (.ref TL) []))) := fun b o hb e => by rw [upd_ne hb]; exact s1 _ _ e
    have hTLx : TL ≠ x := fun e => by
      have := s1 _ _ hx
      rw [← e, hTL] at this; cases this
    have t1 : TS H1 (L2.upd H1 x (.ins (CU K) dx (putF "told" (.ref TL) []))) := ts_upd (s1 _ _ hx) fun xs e => by cases e
    have hw1 : IsW (L2.upd H1 x (.ins (CU K) dx (putF "told" (.ref TL) []))) wt u := rt_w _ _ _ _ t1 (hw.m s1)
    refine ss_cons (s_fld (P := fun z H2 => NewL RInt (L2.upd H1 x (.ins (CU K) dx (putF "told" (.ref TL) []))) wt z H2) (cp_listOf T.list ((cv_var 2 rfl).imp fun z H2 s2 e => by subst e; exact isW_tup.mp (hw1.m s2)) rt_int.m) (cv_var 0 rfl) upd_same T.cU T.nLeft putF_1 (fun vl H2 s2 ⟨L, ys, evl, hL0, hL, hpl⟩ => ?_) (fun z H2 H3 s ⟨L, ys, e, h1, h2, h3⟩ => ⟨L, ys, e, h1, s _ _ h2, paired_rm rt_int.m s h3⟩))
    subst evl
    have eys := paired_int hpl
    subst eys
    have hxL : x ≠ L := fun e => by rw [← e, upd_same] at hL0; cases hL0
    have hTL2 : H2 TL = some (.lst xs) := s2 _ _ (by rw [upd_ne hTLx]; exact hTL)
    have hTLL : TL ≠ L := fun e => by
      rw [← e, upd_ne hTLx, hTL] at hL0; cases hL0
    have b2 : But1 x H (L2.upd H2 x (.ins (CU K) dx (putF "left" (.ref L) (putF "told" (.ref TL) [])))) := fun b o hb e => by rw [upd_ne hb]; exact s2 _ _ (b1 _ _ hb e)
    have t2 : TS H1 (L2.upd H2 x (.ins (CU K) dx (putF "left" (.ref L) (putF "told" (.ref TL) [])))) := TS.trans t1 (TS.trans (Pz.Same.ts s2) (ts_upd (s2 _ _ upd_same) fun xs e => by cases e))
    have hHL : H L = none := by
      cases e : H L with
      | none => rfl
      | some o => have := b1 L o (Ne.symm hxL) e; rw [hL0] at this; cases this
    refine ss_cons (s_fld (P := fun z _ => z = u) (cv_var 2 rfl) (cv_var 0 rfl) upd_same T.cU T.nFirst putF_2 (fun vf H3 s3 evf => ?_) (mon_eq _))
    subst evf
    have hL2 : (L2.upd H2 x (.ins (CU K) dx (putF "left" (.ref L) (putF "told" (.ref TL) [])))) L = some (.lst (iv wt)) := by rw [upd_ne (Ne.symm hxL)]; exact hL
    refine ss_one (s_fld (P := fun z H4 => ∃ F, z = .ref F ∧ (L2.upd H3 x (.ins (CU K) dx (putF "first" vf (putF "left" (.ref L) (putF "told" (.ref TL) []))))) F = none ∧ H4 F = some (.dT [])) cp_dnewT (cv_var 0 rfl) upd_same T.cU T.nGiven putF_3 (fun vg H4 s4 ⟨G, evg, hG0, hG⟩ => ?_) (fun z H4 H5 s ⟨F, e, h1, h2⟩ => ⟨F, e, h1, s _ _ h2⟩))
    subst evg
    have b3 : But1 x H (L2.upd H3 x (.ins (CU K) dx (putF "first" vf (putF "left" (.ref L) (putF "told" (.ref TL) []))))) := fun b o hb e => by rw [upd_ne hb]; exact s3 _ _ (b2 _ _ hb e)
    have hxG : x ≠ G := fun e => by rw [← e, upd_same] at hG0; cases hG0
    have hHG : H G = none := by
      cases e : H G with
      | none => rfl
      | some o => have := b3 G o (Ne.symm hxG) e; rw [hG0] at this; cases this
    have t4 : TS H1 (L2.upd H4 x (.ins (CU K) dx (fsU TL L vf G))) := TS.trans t2 (TS.trans (Pz.Same.ts s3) (TS.trans (ts_upd (s3 _ _ upd_same) fun xs e => by cases e) (TS.trans (Pz.Same.ts s4) (ts_upd (s4 _ _ upd_same) fun xs e => by cases e))))
    refine k (L2.upd H4 x (.ins (CU K) dx (fsU TL L vf G))) L G TL cs (fun b o hb e => by rw [upd_ne hb]; exact s4 _ _ (b3 _ _ hb e)) hHL hHG ⟨⟨dx, vf, upd_same, rt_w _ _ _ _ t4 (hw.m s1)⟩, ⟨xs, ?_, paired_rt rt_l t4 hpr⟩, ?_, ?_, hTLL⟩ ⟨wf.ok, wf.le, hc1, hc2, Pt.flow_start hl⟩
    · rw [upd_ne hTLx]
      refine s4 _ _ ?_
      rw [upd_ne hTLx]
      refine s3 _ _ ?_
      rw [upd_ne hTLx]
      exact hTL2
    · rw [upd_ne (Ne.symm hxL)]
      refine s4 _ _ ?_
      rw [upd_ne (Ne.symm hxL)]
      exact s3 _ _ hL2
    · rw [upd_ne (Ne.symm hxG)]
      exact hG
end
end Pz
end
section
set_option Elab.async false
set_option linter.all false
set_option maxRecDepth 100000
set_option maxHeartbeats 4000000
namespace Pz
open PySem PySem.Spec PyProof.Rows L2
structure Ps where
  t : List (List Nat)
  wt : List Int
  cs : List (List Nat)
  kvs : List Pt.Ent
  left : List Int
  P : Addr
  L : Addr
  G : Addr
  TL : Addr
def Ps.In (i : Ps) (C : Addr) (H : Hp) : Prop := Pur C i.wt i.cs i.kvs i.left i.P i.L i.G i.TL H
def Ps.Ok (i : Ps) : Prop := PurOk i.t i.wt i.cs i.kvs i.left
theorem Ps.In.m {i : Ps} {C : Addr} {H H' : Hp} (h : i.In C H) (s : Same H H') : i.In C H' := Pur.m s h
theorem lk_told {TL L G : Addr} {vw : V} : (fsU TL L vw G).lookup ("told" : Str) = some (V.ref TL) := rfl
theorem lk_left {TL L G : Addr} {vw : V} : (fsU TL L vw G).lookup ("left" : Str) = some (V.ref L) := rfl
theorem lk_first {TL L G : Addr} {vw : V} : (fsU TL L vw G).lookup ("first" : Str) = some vw := rfl
theorem lk_given {TL L G : Addr} {vw : V} : (fsU TL L vw G).lookup ("given" : Str) = some (V.ref G) := rfl
section
variable {X : Cx} {o a b : Expr} {σ : L2.St} {H : Hp} {pos p2 : Pos} {i : Ps}
theorem cv_left (T : Tx X.K X.mg) (h : i.In (CU X.K) H) (ho : CV X o σ H (.ref i.P)) (hb : attributeBase o "left" X.env (eval o X.env) = eval o X.env := by rfl) : CV X (.Attribute o "left" pos) σ H (.ref i.L) :=
  cp_fld ho T.cU T.nLeft (fun v H1 s ev => let ⟨dx, vw, h1, h2⟩ := (h.m s).obj; ⟨i.P, dx, _, .ref i.L, ev, h1, lk_left, rfl⟩) hb
theorem cv_given (T : Tx X.K X.mg) (h : i.In (CU X.K) H) (ho : CV X o σ H (.ref i.P)) (hb : attributeBase o "given" X.env (eval o X.env) = eval o X.env := by rfl) : CV X (.Attribute o "given" pos) σ H (.ref i.G) :=
  cp_fld ho T.cU T.nGiven (fun v H1 s ev => let ⟨dx, vw, h1, h2⟩ := (h.m s).obj; ⟨i.P, dx, _, .ref i.G, ev, h1, lk_given, rfl⟩) hb
theorem cp_told (T : Tx X.K X.mg) (h : i.In (CU X.K) H) (ho : CV X o σ H (.ref i.P)) (hb : attributeBase o "told" X.env (eval o X.env) = eval o X.env := by rfl) : CP X (.Attribute o "told" pos) σ H (fun v H1 => IsLst IsL H1 i.cs v) :=
  cp_fld ho T.cU T.nTold (fun v H1 s ev => let ⟨dx, vw, h1, h2⟩ := (h.m s).obj; ⟨i.P, dx, _, .ref i.TL, ev, h1, lk_told, let ⟨xs, g1, g2⟩ := (h.m s).told; ⟨i.TL, xs, rfl, g1, g2⟩⟩) hb
theorem cp_first (T : Tx X.K X.mg) (h : i.In (CU X.K) H) (ho : CV X o σ H (.ref i.P)) (hb : attributeBase o "first" X.env (eval o X.env) = eval o X.env := by rfl) : CP X (.Attribute o "first" pos) σ H (fun v H1 => IsW H1 i.wt v) :=
  cp_fld ho T.cU T.nFirst (fun v H1 s ev => let ⟨dx, vw, h1, h2⟩ := (h.m s).obj; ⟨i.P, dx, _, vw, ev, h1, lk_first, h2⟩) hb
/-- self.first[b] -/
theorem cv_firstAt (T : Tx X.K X.mg) (h : i.In (CU X.K) H) (ho : CV X o σ H (.ref i.P)) {n : Nat} (hn : n < i.wt.length) (hi : CV X b σ H (.int (n : Int))) (hb : attributeBase o "first" X.env (eval o X.env) = eval o X.env := by rfl) (hs : PlainIx b := by exact fun _ _ => rfl) :
    CV X (.Subscript (.Attribute o "first" p2) b pos) σ H (.int (Pt.wg i.wt n)) :=
  CP.imp (cp_ixT (R := RInt) (CP.imp (cp_first T h ho hb) fun v H1 _ e => isW_tup.mp e) hi (atW hn) rt_int.m hs) fun v H1 _ e => e
theorem isLst_iv {H : Hp} {L : Addr} {l : List Int} (h : H L = some (.lst (iv l))) : IsLst RInt H l (.ref L) := ⟨L, _, rfl, h, by
  clear h
  induction l with
  | nil => exact .nil
  | cons a l ih => exact .cons rfl ih⟩
/-- self.left[b] -/
theorem cv_leftAt (T : Tx X.K X.mg) (h : i.In (CU X.K) H) (ho : CV X o σ H (.ref i.P)) {n : Nat} (hn : n < i.left.length) (hi : CV X b σ H (.int (n : Int))) (hb : attributeBase o "left" X.env (eval o X.env) = eval o X.env := by rfl) (hs : PlainIx b := by exact fun _ _ => rfl) :
    CV X (.Subscript (.Attribute o "left" p2) b pos) σ H (.int (i.left.getD n 0)) :=
  CP.imp (cp_ixL (R := RInt) (CP.imp (cv_left T h ho hb) fun v H1 s e => by rw [e]; exact isLst_iv (h.m s).left) hi (atW hn) rt_int.m hs) fun v H1 _ e => e
end
theorem alook_key {kvs : List Pt.Ent} {k : NN} (h : k ∈ kvs.map (·.1)) : Pt.alook kvs k = some (Pt.aget kvs k) := by
  unfold Pt.aget
  cases e : Pt.alook kvs k with
  | some v => rfl
  | none =>
    exfalso
    induction kvs with
    | nil => cases h
    | cons x kvs ih =>
      rw [Pt.alook_cons] at e
      by_cases hx : x.1 = k
      · rw [if_pos hx] at e; cases e
      · rw [if_neg hx] at e
        rw [List.map_cons, List.mem_cons] at h
        exact ih (h.resolve_left fun z => hx z.symm) e
theorem keys_100 {t : List (List Nat)} {wt : List Int} {kvs : List Pt.Ent} {left : List Int} (F : Pt.FlowOk t wt kvs left) (h : t.length ≤ 10) : kvs.length ≤ 100 := by
  have hlt : ∀ e ∈ kvs, e.1.1 < 10 ∧ e.1.2 < 10 := fun e he => by
    have := F.core.key e he
    have h1 := Pt.lt_of_worth F.wlen (b := e.1.1) (by omega)
    have h2 := Pt.lt_of_worth F.wlen (b := e.1.2) (by omega)
    omega
  have hn : ((kvs.map (·.1)).map fun k : NN => k.1 * 10 + k.2).Nodup := by
    have hnd : (kvs.map (·.1)).Nodup := F.core.nd
    have hk : ∀ k ∈ kvs.map (·.1), k.1 < 10 ∧ k.2 < 10 := fun k hk => by
      obtain ⟨e, he, rfl⟩ := List.mem_map.mp hk
      exact hlt e he
    generalize kvs.map (·.1) = ks at hnd hk
    induction ks with
    | nil => exact List.Pairwise.nil
    | cons a ks ih =>
      rw [List.nodup_cons] at hnd
      rw [List.map_cons, List.nodup_cons]
      refine ⟨fun hm => ?_, ih hnd.2 fun k hk' => hk k (List.mem_cons_of_mem _ hk')⟩
      obtain ⟨b, hb, e⟩ := List.mem_map.mp hm
      have h1 := hk a (List.mem_cons_self ..)
      have h2 := hk b (List.mem_cons_of_mem _ hb)
      have : b = a := Prod.ext (by omega) (by omega)
      exact hnd.1 (this ▸ hb)
  have := Pt.nd_len 100 _ hn fun x hx => by
    obtain ⟨k, hk, rfl⟩ := List.mem_map.mp hx
    obtain ⟨e, he, rfl⟩ := List.mem_map.mp hk
    have := hlt e he
    show e.1.1 * 10 + e.1.2 < 100
    omega
  rw [List.length_map, List.length_map] at this
  exact this
section
variable {P : Program} {w : World} {K : PySem.W.Frag} {mg : Str → Option Value} {base : Heap}
/-! ### beside -/
def spBeside (CU : Addr) : Sp := fun vs H Q _ => ∃ (i : Ps) (b : Nat), vs = [.ref i.P, .int (b : Int)] ∧ i.In CU H ∧ i.Ok ∧ b < i.t.length ∧
  ∀ a ys xs H', Same H H' → H a = none → H' a = some (.lst xs) → Paired (RNat H') ys xs → (∀ c, c ∈ ys ↔ Pt.Edge i.t i.wt i.kvs b c) → Q (.ref a) H'
abbrev PBeside (P : Program) (w : World) (K : PySem.W.Frag) (mg : Str → Option Value) (base : Heap) : Prop := PmM P w K mg base (He.ma K (CU K) "beside") 1 ["self", "block"] (spBeside (CU K))
theorem sc_P_beside : FnScope ["self", "block", "one", "pair"] ["self", "block"] (defScope s_P_beside) := ⟨rfl, rfl, rfl, by decide +kernel, rfl, by decide +kernel, by decide +kernel⟩
theorem ok_P_beside (T : Tx K mg) (D : DfM K (CU K) "beside" "Purses.beside" s_P_beside (He.ma K (CU K) "beside")) : PBeside P w K mg base := by
  refine D.pm sc_P_beside (fun _ _ _ _ _ _ us hl => match us, hl with | [_, _], _ => rfl) (fun vs H Q E h => ?_) (fun cdv A outer s H vs Q E hr h => ?_)
  · obtain ⟨i, b, rfl, _⟩ := h; rfl
  · obtain ⟨i, b, rfl, hI, hO, hb, k⟩ := h
    have hwl : i.wt.length = i.t.length := hO.flow.wlen
    have hun : (A.deeper (envOfC "Purses.beside" (defScope s_P_beside) s.heap.objs.size (He.ma K (CU K) "beside") cdv)).units + 200 < cLine := by have := hr.un; omega
    refine ss_cons (s_if (b := decide (0 < Pt.wg i.wt b)) (ct_gt (cv_firstAt T hI (cv_var 0 rfl) (by omega) (cv_var 1 rfl)) cv_int) (fun ht H1 s1 => ?_) (fun hf H1 s1 => ss_nil ?_))
    · have ht := of_decide_eq_true ht
      have hbc : b < i.cs.length := by rw [hO.told.len]; exact hb
      have hgm : i.cs.getD b [] ∈ i.cs := getD_mem hbc
      have hcv := hO.cov _ hgm
      have hcl := asc_len hcv.1 hcv.2
      have h10 := hO.le
      refine ss_one (s_ret (cp_lc1 [("one", 2)] (j := 2) (fun c : Nat => decide (Pt.wg i.wt c < 0)) (fun c : Nat => c) RNat
        (ci_tup (CP.imp (cp_ixL (R := IsL) (i := (b : Int)) (cp_told T (hI.m s1) (cv_var 0 rfl)) (cv_var 1 rfl) (at_getD hbc) rt_l.m) fun z H2 _ h => isL_tup.mp h) rt_nat) (fun _ _ s => Same.ts s) rt_nat (by omega) ?_ rfl sc_P_beside.nd
        (blkOk_by (own := [("one", 2)]) (N := ["self", "block", "one", "pair"]) (sc := defScope s_P_beside) (by decide +kernel)) (fun _ _ _ _ _ => pg_name (i := 2) sc_P_beside.nd rfl (Or.inl rfl)) (fun _ => rfl)) fun z H2 s2 ⟨a, xs, e1, e2, e3, e4⟩ => ?_)
      · intro s0 H0 C cl fp c x' H6 hc s6 hx'
        have hx' : x' = .int (c : Int) := hx'
        subst hx'
        have hct := hcv.2 c hc
        exact ⟨cts_one (ct_lt (cv_firstAt T ((hI.m s1).m s6) (cv_var 0 rfl) (by omega) (cv_var 2 rfl)) cv_int), fun _ => cv_var 2 rfl⟩
      · subst e1
        refine k a _ xs H2 (s1.trans s2) (s1.free e2) e3 e4 fun c => ?_
        rw [map_id', List.mem_filter, hO.told.mem b hb c]
        constructor
        · rintro ⟨h1, h2⟩
          exact .inl ⟨ht, of_decide_eq_true h2, h1⟩
        · rintro (⟨_, h1, h2⟩ | ⟨h1, _⟩)
          · exact ⟨h2, decide_eq_true h1⟩
          · exact absurd ht h1
    · have hf := of_decide_eq_false hf
      refine ss_one (s_ret (cp_lc1 [("pair", 3)] (j := 3) (fun k : NN => decide (k.2 = b) && decide (0 < Pt.aget i.kvs k)) (fun k : NN => k.1) RNat
        (ci_list (CP.imp (cp_sortD (kv := kvV i.kvs) (ks := i.kvs.map (·.1)) T.sorted hun (cv_given T (hI.m s1) (cv_var 0 rfl)) (hI.m s1).given (kvV_keys _)) fun z H2 _ h => h.lst) rt_nn.m) (fun _ _ s => s) rt_nat (by rw [List.length_mergeSort, List.length_map]; have := keys_100 hO.flow hO.le; omega) ?_ rfl sc_P_beside.nd
        (blkOk_by (own := [("pair", 3)]) (N := ["self", "block", "one", "pair"]) (sc := defScope s_P_beside) (by decide +kernel)) (fun _ _ _ _ _ => pg_name (i := 3) sc_P_beside.nd rfl (Or.inl rfl)) (fun _ => rfl)) fun z H2 s2 ⟨a, xs, e1, e2, e3, e4⟩ => ?_)
      · intro s0 H0 C cl fp q x' H6 hc s6 hx'
        obtain ⟨Tq, y1, y2, rfl, hT, g1, g2⟩ := hx'
        have g1 : y1 = .int (q.1 : Int) := g1
        have g2 : y2 = .int (q.2 : Int) := g2
        subst g1 g2
        rw [List.mem_mergeSort] at hc
        have hraw : ∀ {H7 : Hp}, Same H6 H7 → H7 Tq = some (.tup [.int (q.1 : Int), .int (q.2 : Int)]) := fun s7 => s7 _ _ hT
        refine ⟨cts_one (CW.ct (cw_and (k := decide (q.2 = b)) (l := decide (0 < Pt.aget i.kvs q)) (CT.to (ct_eq (x := .int (q.2 : Int)) (y := .int (b : Int)) (cv_ixRaw (xs := [.int (q.1 : Int), .int (q.2 : Int)]) ((cv_var 3 rfl).imp fun z H7 s7 e => ⟨Tq, e, hraw s7⟩) cv_int rfl) (cv_var 1 rfl) rfl) (decide_eq_decide.mpr ⟨fun h => by injection h with h; omega, fun h => by rw [h]⟩)) fun _ =>
          cw_and1 (ct_gt (cv_dgetT (kvs := kvV i.kvs) (k := ky q) (by show (A.deeper _).units + 1 < _; omega) (cv_given T ((hI.m s1).m s6) (cv_var 0 rfl)) (.inl ((hI.m s1).m s6).given) ((cv_var 3 rfl).imp fun z H7 s7 e => ⟨Tq, e, hraw s7⟩) (by rw [valV_kvV, alook_key hc]; rfl)) cv_int))), fun _ => ?_⟩
        exact CP.imp (cv_ixRaw (xs := [.int (q.1 : Int), .int (q.2 : Int)]) ((cv_var 3 rfl).imp fun z H7 s7 e => ⟨Tq, e, hraw s7⟩) cv_int rfl) fun z H7 _ e => e
      · subst e1
        refine k a _ xs H2 (s1.trans s2) (s1.free e2) e3 e4 fun c => ?_
        rw [List.mem_map]
        constructor
        · rintro ⟨q, hq, rfl⟩
          rw [List.mem_filter, Bool.and_eq_true] at hq
          have h1 := of_decide_eq_true hq.2.1
          have h2 := of_decide_eq_true hq.2.2
          refine .inr ⟨hf, ?_⟩
          rw [← h1]; exact h2
        · rintro (⟨h1, _⟩ | ⟨_, h1⟩)
          · exact absurd h1 hf
          · refine ⟨(c, b), List.mem_filter.mpr ⟨?_, ?_⟩, rfl⟩
            · rw [List.mem_mergeSort]
              exact List.mem_map.mpr ⟨_, Pt.aget_pos_mem h1, rfl⟩
            · rw [decide_eq_true h1, Bool.and_true]; exact decide_eq_true rfl
end
end Pz
end
section
set_option Elab.async false
set_option linter.all false
set_option maxRecDepth 100000
set_option maxHeartbeats 4000000
namespace Pz
open PySem PySem.Spec PyProof.Rows L2
/-- the target a pair of names -/
theorem cp_lc2 {δ α β ε : Type} {X : Cx} {e elt : Expr} {ifs : List Expr} {scope : Scope} (own : List (Str × Nat)) {σ : L2.St} {H : Hp} {Kp : Hp → Hp → Prop} {ds : List (α × β)} {R1 : Rel α} {R2 : Rel β} {pos px py pt : Pos} {kt : Nat} {i j : Nat} {n1 n2 : Str} (f : α × β → Bool) (gd : α × β → ε) (R' : Rel ε)
    (hi : CI X (.Tuple [.Name n1 px, .Name n2 py] kt pt) e σ H Kp ds (RPair R1 R2)) (hK : ∀ H2 H', Same H2 H' → Kp H2 H') (rt' : RT1 R') (hn : ds.length ≤ 40000)
    (turn : ∀ (s0 : Shared) (H0 : Hp) (C : Addr) (cl : List (Str × Addr)) (fp : List Addr) (d : α × β) (x y : V) (H' : Hp), d ∈ ds → Same H H' → R1 H' d.1 x → R2 H' d.2 y →
      CTs (X.blk s0 H0 scope (compEnvC scope cl C X.env) fp) ifs (((wipe σ (own.map (·.2))).set i (some x)).set j (some y)) H' (f d) ∧
      (f d = true → CP (X.blk s0 H0 scope (compEnvC scope cl C X.env) fp) elt (((wipe σ (own.map (·.2))).set i (some x)).set j (some y)) H' (fun v H2 => R' H2 (gd d) v)))
    (hc : X.calm = true) (hN : X.N.Nodup) (ok : BlkOk X.N X.env.scope scope own)
    (hg : ∀ (s : Shared) (H : Hp) (C : Addr) (cl : List (Str × Addr)) (fp : List Addr), PG (X.blk s H scope (compEnvC scope cl C X.env) fp) (.Tuple [.Name n1 px, .Name n2 py] kt pt) (gTup X.K 2 (gCons (gName i) (gCons (gName j) gNil))))
    (hw : ∀ x y, wipe (((wipe σ (own.map (·.2))).set i (some x)).set j (some y)) (own.map (·.2)) = wipe σ (own.map (·.2)))
    (hs : ∀ x, foldedSetIterable e X.env x = pure x := by intro _; rfl) :
    CP X (.ListComp elt [⟨.Tuple [.Name n1 px, .Name n2 py] kt pt, e, ifs, 0⟩] scope pos) σ H (fun v H2 => ∃ a xs, v = .ref a ∧ H a = none ∧ H2 a = some (.lst xs) ∧ Paired (R' H2) ((ds.filter f).map gd) xs) :=
  cp_lc (g := gTup X.K 2 (gCons (gName i) (gCons (gName j) gNil))) (τ := fun x H' σ2 => ∃ T y z, x = .ref T ∧ H' T = some (.tup [y, z]) ∧ σ2 = ((wipe σ (own.map (·.2))).set i (some y)).set j (some z)) f gd R' hc hN hi hK ok hg
    (fun d x H' Q ⟨T, y, z, e1, e2, _, _⟩ q => ⟨T, [y, z], e1, SqT.of e2, rfl, y, [z], rfl, z, [], rfl, rfl, q _ ⟨T, y, z, e1, e2, rfl⟩⟩) (fun d x H' σ2 _ ⟨T, y, z, _, _, e⟩ => by rw [e]; exact hw y z) rt' hn
    (fun s0 H0 C cl fp d x H' σ2 hd s ⟨T, y, z, e1, e2, h1, h2⟩ ⟨T', y', z', e1', e2', e⟩ => by
      subst e
      have eT : T = T' := by rw [e1] at e1'; injection e1'
      subst eT
      rw [e2] at e2'
      injection e2' with e3
      injection e3 with e3
      injection e3 with e4 e5
      injection e5 with e5 _
      subst e4 e5
      exact turn s0 H0 C cl fp d y z H' hd s h1 h2) hs
/-! ### {name: None for name in xs} -/
theorem dc_it {J : It} {n : Nat} {G : Hp → Prop} {Y : Nat → Hp → V → Hp → Prop} (w : Walk J n G Y) {g : TG} {tt : TT} {tk tv : TE} {vs : List Nat} {σ : L2.St} {H1 : Hp} {D : Addr} {Qd : Hp → Prop} (Pv : Nat → Hp → Prop) (h0 : Pv 0 (L2.upd H1 D (.dK []))) (hl : ∀ i H, i ≤ n → Pv i H → G H)
    (hs : ∀ i x H H', i < n → Pv i H → Y i H x H' → g x (wipe σ vs) H' fun σ2 H2 => wipe σ2 vs = wipe σ vs ∧ tt σ2 H2 fun b H3 =>
      if b = true then tk σ2 H3 fun y H4 => tv σ2 H4 fun z H5 => ∃ kvs k, y = kV k ∧ H5 D = some (.dK kvs) ∧ kvs.length < sizeLine ∧ Pv (i + 1) (L2.upd H5 D (.dK (putK kvs k z))) else Pv (i + 1) H3) (hd : ∀ H, Pv n H → Qd H) :
    ∃ W : Nat → Nat → Hp → Prop, (∃ m, W 0 m (L2.upd H1 D (.dK []))) ∧ ∀ i m H, W i m H →
      (J.stop i H ∧ Qd H) ∨ (J.go i H ∧ ∃ Nx : Hp → Prop, (∀ H', Nx H' → ∃ m', m' < m ∧ W (i + 1) m' H') ∧ ∀ x H', J.yld i H x H' → g x (wipe σ vs) H' fun σ2 H2 => wipe σ2 vs = wipe σ vs ∧ tt σ2 H2 fun b H3 =>
        if b = true then tk σ2 H3 fun y H4 => tv σ2 H4 fun z H5 => ∃ kvs k, y = kV k ∧ H5 D = some (.dK kvs) ∧ kvs.length < sizeLine ∧ Nx (L2.upd H5 D (.dK (putK kvs k z))) else Nx H3) := by
  refine ⟨fun i m H => m = n - i ∧ i ≤ n ∧ Pv i H, ⟨n, by simp, Nat.zero_le _, h0⟩, ?_⟩
  rintro i m H ⟨rfl, hi, p⟩
  have q := hl i H hi p
  by_cases hlt : i < n
  · exact .inr ⟨w.goes i H hlt q, Pv (i + 1), fun H' p' => ⟨n - (i + 1), by omega, rfl, hlt, p'⟩, fun x H' y => hs i x H H' hlt p (w.yields i H x H' hlt q y)⟩
  · have e : i = n := by omega
    subst e
    exact .inl ⟨w.stops H q, hd H p⟩
def ik (n : Nat) : L2.Key := .inl (n : Int)
theorem ik_inj {a b : Nat} (h : ik a = ik b) : a = b := by
  unfold ik at h
  injection h with h
  omega
theorem valV_nones {ds : List Nat} {c : Nat} (h : c ∉ ds) : valV (ds.map fun n => (ik n, V.non)) (ik c) = none := by
  induction ds with
  | nil => rfl
  | cons a ds ih =>
    rw [List.mem_cons, not_or] at h
    rw [List.map_cons]
    exact (valV_neg (p := (ik a, V.non)) (fun z => h.1 (ik_inj z).symm)).trans (ih h.2)
end Pz
end
section
set_option Elab.async false
set_option linter.all false
set_option maxRecDepth 100000
set_option maxHeartbeats 4000000
namespace Pz
open PySem PySem.Spec PyProof.Rows L2
/-! ### name = [..], name = {..: ..}, the name a plain local -/
abbrev Bk (X : Cx) (scope : Scope) (T : Cx → Prop) : Prop := ∀ (s : Shared) (H : Hp) (C : Addr) (cl : List (Str × Addr)) (fp : List Addr), T (X.blk s H scope (compEnvC scope cl C X.env) fp)
def RL (X : Cx) (elt tg e : Expr) (ifs : List Expr) (scope : Scope) : TE := fun σ H Q => ∃ (wi : TI) (g : TG) (tt : TT) (te : TE) (own : List (Str × Nat)),
  PI X tg e wi ∧ BlkOk X.N X.env.scope scope own ∧ Bk X scope (fun Y => PG Y tg g) ∧ Bk X scope (fun Y => PTs Y ifs tt) ∧ Bk X scope (fun Y => PE Y elt te) ∧ tLc wi g tt te (own.map (·.2)) σ H Q
def CPL (X : Cx) (elt tg e : Expr) (ifs : List Expr) (scope : Scope) (σ : L2.St) (H : Hp) (P : V → Hp → Prop) : Prop := ∀ H1, Same H H1 → ∀ Q : VK, (∀ v H2, Same H1 H2 → P v H2 → Q v H2) → RL X elt tg e ifs scope σ H1 Q
def RD (X : Cx) (kx vx tg e : Expr) (scope : Scope) : TE := fun σ H Q => ∃ (wi : TI) (g : TG) (tt : TT) (tk tv : TE) (own : List (Str × Nat)),
  PI X tg e wi ∧ BlkOk X.N X.env.scope scope own ∧ Bk X scope (fun Y => PG Y tg g) ∧ Bk X scope (fun Y => PTs Y [] tt) ∧ Bk X scope (fun Y => PE Y kx tk) ∧ Bk X scope (fun Y => PE Y vx tv) ∧ tDc wi g tt tk tv (own.map (·.2)) σ H Q
def CPD (X : Cx) (kx vx tg e : Expr) (scope : Scope) (σ : L2.St) (H : Hp) (P : V → Hp → Prop) : Prop := ∀ H1, Same H H1 → ∀ Q : VK, (∀ v H2, Same H1 H2 → P v H2 → Q v H2) → RD X kx vx tg e scope σ H1 Q
section
variable {X : Cx} {elt kx vx tg e : Expr} {ifs : List Expr} {scope : Scope} {σ : L2.St} {H : Hp} {P P' : V → Hp → Prop} {D : Ends} {pos spos py : Pos} {y : Str}
theorem CPL.imp (h : CPL X elt tg e ifs scope σ H P) (f : ∀ v H1, Same H H1 → P v H1 → P' v H1) : CPL X elt tg e ifs scope σ H P' := fun H1 s1 Q q => h H1 s1 Q fun v H2 s2 p => q v H2 s2 (f v H2 (s1.trans s2) p)
/-- name = [..] -/
theorem s_setLc (i : Nat) (h : CPL X elt tg e ifs scope σ H P) (k : ∀ v H1, Same H H1 → P v H1 → D.nx (σ.set i (some v)) H1) (hN : X.N.Nodup) (hy : X.N[i]? = some y := by rfl) (hyl : X.env.scope.names.lookup y = some .local := by rfl) (hc : X.calm = true := by rfl)
    (hk : X.env.scope.kind = .function := by rfl) (hl : (py.line == pos.line) = true := by rfl) (ha : (scope.names.any fun (n, k) => n == y && (k == .local || k == .cell)) = false := by rfl) (hs : ∀ x, foldedSetIterable e X.env x = pure x := by intro _; rfl) :
    RS X (.Assign [.Name y py] (.ListComp elt [⟨tg, e, ifs, 0⟩] scope pos) spos) D σ H :=
  ⟨tAsg (RL X elt tg e ifs scope) (gName i), ⟨fun pins s σ H D I ⟨wi, g, tt, te, own, h1, h2, h3, h4, h5, q⟩ => (ps_setLc hc hN hy hyl (sw_true hk hyl hl ha) h1 h2 h3 h4 h5 hs).run pins s σ H D I q⟩, h H (Same.refl _) _ fun v H1 s1 p => k v H1 s1 p⟩
theorem sw_trueD {scope : Scope} {pos py : Pos} {y : Str} {l : Nat} {env : Env} {gs : List Comprehension} (hk : env.scope.kind = .function) (hy : env.scope.names.lookup y = some .local) (hl : (py.line == pos.line) = true)
    (ha : (scope.names.any fun (n, k) => n == y && (k == .local || k == .cell)) = false) : swapsWith (.DictComp kx vx gs scope pos) (some (.Name y py)) l env = pure true := by
  have ky : env.kindOf y = some .local := hy
  have hb : env.blockKind = .function := by unfold Env.blockKind; rw [hk]; rfl
  unfold swapsWith
  simp only [hb, ky, ha, Expr.pos, hl]
  rfl
/-- name = {..: ..} -/
theorem s_setDc (i : Nat) (h : CPD X kx vx tg e scope σ H P) (k : ∀ v H1, Same H H1 → P v H1 → D.nx (σ.set i (some v)) H1) (hN : X.N.Nodup) (hy : X.N[i]? = some y := by rfl) (hyl : X.env.scope.names.lookup y = some .local := by rfl) (hc : X.calm = true := by rfl)
    (hk : X.env.scope.kind = .function := by rfl) (hl : (py.line == pos.line) = true := by rfl) (ha : (scope.names.any fun (n, k) => n == y && (k == .local || k == .cell)) = false := by rfl) (hs : ∀ x, foldedSetIterable e X.env x = pure x := by intro _; rfl) :
    RS X (.Assign [.Name y py] (.DictComp kx vx [⟨tg, e, [], 0⟩] scope pos) spos) D σ H :=
  ⟨tAsg (RD X kx vx tg e scope) (gName i), ⟨fun pins s σ H D I ⟨wi, g, tt, tk, tv, own, h1, h2, h3, h4, h5, h6, q⟩ => by
    rw [exec_Assign_Name_used _ _ _ _ (sw_trueD hk hyl hl ha)]
    refine wpAny_bind (wpAny_standAt (wpAny_bind ?_))
    show wpAny _ X.A (do let _ ← comprehension (.DictComp kx vx [⟨tg, e, [], 0⟩] scope pos) scope X.env (firstIterPos [⟨tg, e, [], 0⟩] pos) newDict false (eval e X.env) (some (assign (.Name y py) X.env))) _ _ s
    have h : tDc wi g tt tk tv (own.map (·.2)) σ H (fun x H1 => gName i x σ H1 D.nx) := q
    refine wpAny_bind (thn (dc_core (Qf := fun _ s' => SP X pins D .next s') hc hN I h1 h2 h3 h4 h5 h6 hs h fun L C s' m H' I' q hn f => ?_) fun _ s' hq => wpAny_pure (wpAny_pure hq))
    show wpAny _ _ (assign (.Name y py) X.env (.ref L)) _ _ _
    refine wpAny_assign_Name (store_ok2 (v := V.ref L) I' hN hy (.inl hyl) rfl (fun s2 I2 ⟨a, sb, ha⟩ => ?_) (.inr hyl))
    obtain ⟨f0, f1, f2, f3, f4, f5⟩ := f
    have haC : C ≠ a := by
      rcases ha with z | z
      · rw [z]; exact f1
      · exact fun e => f4 y a z e.symm
    refine ⟨m, hn.sameBut sb haC, fun h3 sb3 => ?_⟩
    exact ⟨_, H', I2.turned (t' := s2.toks) (fun b o hb e => (sb3.2 b hb).trans e) f0 f1 f3 f4 f5, q⟩⟩, h H (Same.refl _) _ fun v H1 s1 p => k v H1 s1 p⟩
end
theorem cpl_lc {δ ε : Type} {X : Cx} {tg e elt : Expr} {ifs : List Expr} {scope : Scope} {own : List (Str × Nat)} {σ : L2.St} {H : Hp} {Kp : Hp → Hp → Prop} {ds : List δ} {R : Rel δ} {g : TG} {τ : V → Hp → L2.St → Prop} (f : δ → Bool) (gd : δ → ε) (R' : Rel ε)
    (hi : CI X tg e σ H Kp ds R) (hK : ∀ H2 H', Same H2 H' → Kp H2 H') (ok : BlkOk X.N X.env.scope scope own)
    (hg : Bk X scope fun Y => PG Y tg g)
    (hτ : ∀ d x H' (Q : L2.St → Hp → Prop), R H' d x → (∀ σ2, τ x H' σ2 → Q σ2 H') → g x (wipe σ (own.map (·.2))) H' Q) (hw : ∀ d x H' σ2, R H' d x → τ x H' σ2 → wipe σ2 (own.map (·.2)) = wipe σ (own.map (·.2)))
    (rt' : RT1 R') (hn : ds.length ≤ 40000)
    (turn : ∀ (s0 : Shared) (H0 : Hp) (C : Addr) (cl : List (Str × Addr)) (fp : List Addr) (d : δ) (x : V) (H' : Hp) (σ2 : L2.St), d ∈ ds → Same H H' → R H' d x → τ x H' σ2 →
      CTs (X.blk s0 H0 scope (compEnvC scope cl C X.env) fp) ifs σ2 H' (f d) ∧ (f d = true → CP (X.blk s0 H0 scope (compEnvC scope cl C X.env) fp) elt σ2 H' (fun v H2 => R' H2 (gd d) v))) :
    CPL X elt tg e ifs scope σ H (fun v H2 => ∃ a xs, v = .ref a ∧ H a = none ∧ H2 a = some (.lst xs) ∧ Paired (R' H2) ((ds.filter f).map gd) xs) := fun H1 s1 Q q => by
  refine ⟨RI X tg e, g, tB1 X scope ifs, eB1 X scope elt, own, ri_pi, ok, hg,
    (fun s0 H0 C cl fp => ⟨fun pins s σ H Q I h => rts_pts.run pins s σ H Q I (h s0 H0 C cl fp)⟩), (fun s0 H0 C cl fp => ⟨fun pins s σ H Q I h => re_pe.run pins s σ H Q I (h s0 H0 C cl fp)⟩), ?_⟩
  refine hi H1 s1 _ fun J H2 s2 W D hD => ?_
  have hD0 : H D = none := (s1.trans s2).free hD
  refine lc_it (g := g) (tt := tB1 X scope ifs) (te := eB1 X scope elt) (vs := own.map (·.2)) (σ := σ) W (Qd := fun H3 => Q (.ref D) H3) (fun i H3 => Same H2 H3 ∧ ∃ acc, H3 D = some (.lst acc) ∧ acc.length ≤ i ∧ Paired (R' H3) (((ds.take i).filter f).map gd) acc)
    ⟨same_new hD, [], upd_same, Nat.zero_le _, by rw [List.take_zero]; exact .nil⟩ (fun i H3 _ p => hK _ _ p.1) ?_ ?_
  · rintro i x H3 H4 hi ⟨p1, acc, p2, p3, p4⟩ ⟨s4, d, hd, hR⟩
    refine hτ d x H4 _ hR fun σ2 hσ => ⟨hw d x H4 σ2 hR hσ, ?_⟩
    have s5 : Same H H4 := ((s1.trans s2).trans p1).trans s4
    have key := fun s0 H0 C cl fp => turn s0 H0 C cl fp d x H4 σ2 (List.mem_of_getElem? hd) s5 hR hσ
    have etake : ds.take (i + 1) = ds.take i ++ [d] := by rw [List.take_add_one, hd]; rfl
    intro s0 H0 C cl fp
    refine (key s0 H0 C cl fp).1 H4 (Same.refl _) _ fun H5 s6 => ?_
    cases e : f d with
    | false =>
      rw [if_neg (by decide)]
      refine ⟨(p1.trans s4).trans s6, acc, s6 _ _ (s4 _ _ p2), by omega, ?_⟩
      rw [etake, List.filter_append, List.filter_cons_of_neg (by rw [e]; decide)]
      simp only [List.filter_nil, List.append_nil]
      exact paired_rm rt'.m (s4.trans s6) p4
    | true =>
      rw [if_pos rfl]
      intro s0 H0 C cl fp
      refine (key s0 H0 C cl fp).2 e H5 s6 _ fun v H6 s7 hv => ⟨acc, s7 _ _ (s6 _ _ (s4 _ _ p2)), ?_, ?_⟩
      · have hsl := sizeLine_eq
        omega
      · have hDn : H2 D = none := hD
        have eD : H6 D = some (.lst acc) := s7 _ _ (s6 _ _ (s4 _ _ p2))
        have tS : TS H6 (L2.upd H6 D (.lst (acc ++ [v]))) := ts_upd eD fun xs q => by cases q
        refine ⟨same_mut (((p1.trans s4).trans s6).trans s7) hDn, acc ++ [v], upd_same, by rw [List.length_append, List.length_singleton]; omega, ?_⟩
        rw [etake, List.filter_append, List.filter_cons_of_pos e, List.map_append]
        simp only [List.filter_nil, List.map_cons, List.map_nil]
        exact paired_snoc (paired_rt rt' ((Pz.Same.ts ((s4.trans s6).trans s7)).trans tS) p4) (rt' _ _ _ _ tS hv)
  · rintro H3 ⟨p1, acc, p2, p3, p4⟩
    rw [List.take_length] at p4
    exact q _ H3 (s2.trans p1) ⟨D, acc, rfl, hD0, p2, p4⟩
theorem cpl_lc1 {δ ε : Type} {X : Cx} {e elt : Expr} {ifs : List Expr} {scope : Scope} (own : List (Str × Nat)) {σ : L2.St} {H : Hp} {Kp : Hp → Hp → Prop} {ds : List δ} {R : Rel δ} {px : Pos} {j : Nat} {n : Str} (f : δ → Bool) (gd : δ → ε) (R' : Rel ε)
    (hi : CI X (.Name n px) e σ H Kp ds R) (hK : ∀ H2 H', Same H2 H' → Kp H2 H') (rt' : RT1 R') (hn : ds.length ≤ 40000)
    (turn : ∀ (s0 : Shared) (H0 : Hp) (C : Addr) (cl : List (Str × Addr)) (fp : List Addr) (d : δ) (x : V) (H' : Hp), d ∈ ds → Same H H' → R H' d x →
      CTs (X.blk s0 H0 scope (compEnvC scope cl C X.env) fp) ifs ((wipe σ (own.map (·.2))).set j (some x)) H' (f d) ∧
      (f d = true → CP (X.blk s0 H0 scope (compEnvC scope cl C X.env) fp) elt ((wipe σ (own.map (·.2))).set j (some x)) H' (fun v H2 => R' H2 (gd d) v)))
    (ok : BlkOk X.N X.env.scope scope own) (hg : Bk X scope fun Y => PG Y (.Name n px) (gName j))
    (hw : ∀ x, wipe ((wipe σ (own.map (·.2))).set j (some x)) (own.map (·.2)) = wipe σ (own.map (·.2))) :
    CPL X elt (.Name n px) e ifs scope σ H (fun v H2 => ∃ a xs, v = .ref a ∧ H a = none ∧ H2 a = some (.lst xs) ∧ Paired (R' H2) ((ds.filter f).map gd) xs) :=
  cpl_lc (g := gName j) (τ := fun x _ σ2 => σ2 = (wipe σ (own.map (·.2))).set j (some x)) f gd R' hi hK ok hg (fun d x H' Q _ q => q _ rfl) (fun d x H' σ2 _ e => by rw [e]; exact hw x) rt' hn
    (fun s0 H0 C cl fp d x H' σ2 hd s r e => by subst e; exact turn s0 H0 C cl fp d x H' hd s r)
theorem cpl_lc2 {α β ε : Type} {X : Cx} {e elt : Expr} {ifs : List Expr} {scope : Scope} (own : List (Str × Nat)) {σ : L2.St} {H : Hp} {Kp : Hp → Hp → Prop} {ds : List (α × β)} {R1 : Rel α} {R2 : Rel β} {px py pt : Pos} {kt : Nat} {i j : Nat} {n1 n2 : Str} (f : α × β → Bool) (gd : α × β → ε) (R' : Rel ε)
    (hi : CI X (.Tuple [.Name n1 px, .Name n2 py] kt pt) e σ H Kp ds (RPair R1 R2)) (hK : ∀ H2 H', Same H2 H' → Kp H2 H') (rt' : RT1 R') (hn : ds.length ≤ 40000)
    (turn : ∀ (s0 : Shared) (H0 : Hp) (C : Addr) (cl : List (Str × Addr)) (fp : List Addr) (d : α × β) (x y : V) (H' : Hp), d ∈ ds → Same H H' → R1 H' d.1 x → R2 H' d.2 y →
      CTs (X.blk s0 H0 scope (compEnvC scope cl C X.env) fp) ifs (((wipe σ (own.map (·.2))).set i (some x)).set j (some y)) H' (f d) ∧
      (f d = true → CP (X.blk s0 H0 scope (compEnvC scope cl C X.env) fp) elt (((wipe σ (own.map (·.2))).set i (some x)).set j (some y)) H' (fun v H2 => R' H2 (gd d) v)))
    (ok : BlkOk X.N X.env.scope scope own)
    (hg : Bk X scope fun Y => PG Y (.Tuple [.Name n1 px, .Name n2 py] kt pt) (gTup X.K 2 (gCons (gName i) (gCons (gName j) gNil))))
    (hw : ∀ x y, wipe (((wipe σ (own.map (·.2))).set i (some x)).set j (some y)) (own.map (·.2)) = wipe σ (own.map (·.2))) :
    CPL X elt (.Tuple [.Name n1 px, .Name n2 py] kt pt) e ifs scope σ H (fun v H2 => ∃ a xs, v = .ref a ∧ H a = none ∧ H2 a = some (.lst xs) ∧ Paired (R' H2) ((ds.filter f).map gd) xs) :=
  cpl_lc (g := gTup X.K 2 (gCons (gName i) (gCons (gName j) gNil))) (τ := fun x H' σ2 => ∃ T y z, x = .ref T ∧ H' T = some (.tup [y, z]) ∧ σ2 = ((wipe σ (own.map (·.2))).set i (some y)).set j (some z)) f gd R' hi hK ok hg
    (fun d x H' Q ⟨T, y, z, e1, e2, _, _⟩ q => ⟨T, [y, z], e1, SqT.of e2, rfl, y, [z], rfl, z, [], rfl, rfl, q _ ⟨T, y, z, e1, e2, rfl⟩⟩) (fun d x H' σ2 _ ⟨T, y, z, _, _, e⟩ => by rw [e]; exact hw y z) rt' hn
    (fun s0 H0 C cl fp d x H' σ2 hd s ⟨T, y, z, e1, e2, h1, h2⟩ ⟨T', y', z', e1', e2', e⟩ => by
      subst e
      have eT : T = T' := by rw [e1] at e1'; injection e1'
      subst eT
      rw [e2] at e2'
      injection e2' with e3
      injection e3 with e3
      injection e3 with e4 e5
      injection e5 with e5 _
      subst e4 e5
      exact turn s0 H0 C cl fp d y z H' hd s h1 h2)
theorem cpd_none {X : Cx} {e : Expr} {scope : Scope} (own : List (Str × Nat)) {σ : L2.St} {H : Hp} {ds : List Nat} {px pk : Pos} {kn : Nat} {pn : Pos} {j : Nat} {n : Str}
    (hi : CI X (.Name n px) e σ H Same ds RNat) (hnd : ds.Nodup) (hn : ds.length ≤ 40000) (ok : BlkOk X.N X.env.scope scope own)
    (hg : Bk X scope fun Y => PG Y (.Name n px) (gName j))
    (hk : ∀ (s0 : Shared) (H0 : Hp) (C : Addr) (cl : List (Str × Addr)) (fp : List Addr) (x : V) (H' : Hp), CV (X.blk s0 H0 scope (compEnvC scope cl C X.env) fp) (.Name n pk) ((wipe σ (own.map (·.2))).set j (some x)) H' x)
    (hw : ∀ x, wipe ((wipe σ (own.map (·.2))).set j (some x)) (own.map (·.2)) = wipe σ (own.map (·.2))) :
    CPD X (.Name n pk) (.Constant .none kn pn) (.Name n px) e scope σ H (fun v H2 => ∃ D, v = .ref D ∧ H D = none ∧ H2 D = some (.dK (ds.map fun n => (ik n, V.non)))) := fun H1 s1 Q q => by
  refine ⟨RI X (.Name n px) e, gName j, tB1 X scope [], eB1 X scope (.Name n pk), eB1 X scope (.Constant .none kn pn), own, ri_pi, ok, hg,
    (fun s0 H0 C cl fp => ⟨fun pins s σ H Q I h => rts_pts.run pins s σ H Q I (h s0 H0 C cl fp)⟩), (fun s0 H0 C cl fp => ⟨fun pins s σ H Q I h => re_pe.run pins s σ H Q I (h s0 H0 C cl fp)⟩), (fun s0 H0 C cl fp => ⟨fun pins s σ H Q I h => re_pe.run pins s σ H Q I (h s0 H0 C cl fp)⟩), ?_⟩
  refine hi H1 s1 _ fun J H2 s2 W D hD => ?_
  have hD0 : H D = none := (s1.trans s2).free hD
  refine dc_it (g := gName j) (tt := tB1 X scope []) (vs := own.map (·.2)) (σ := σ) W (Qd := fun H3 => Q (.ref D) H3) (fun i H3 => Same H2 H3 ∧ H3 D = some (.dK ((ds.take i).map fun n => (ik n, V.non))))
    ⟨same_new hD, by rw [List.take_zero]; exact upd_same⟩ (fun i H3 _ p => p.1) ?_ ?_
  · rintro i x H3 H4 hi' ⟨p1, p2⟩ ⟨s4, d, hd, hR⟩
    have hR : x = .int (d : Int) := hR
    subst hR
    refine ⟨hw _, fun s0 H0 C cl fp => cts_nil H4 (Same.refl _) _ fun H5 s5 => ?_⟩
    rw [if_pos rfl]
    intro s0 H0 C cl fp
    refine hk s0 H0 C cl fp (.int (d : Int)) H5 H5 (Same.refl _) _ fun y H6 s6 ey => ?_
    subst ey
    intro s0 H0 C cl fp
    refine (cv_non : CV (X.blk s0 H0 scope (compEnvC scope cl C X.env) fp) (.Constant .none kn pn) _ H6 .non) H6 (Same.refl _) _ fun z H7 s7 ez => ?_
    subst ez
    have sA := ((s4.trans s5).trans s6).trans s7
    have hD7 := sA _ _ p2
    have hni : d ∉ ds.take i := fun hm => by
      obtain ⟨k, hk', ek⟩ := List.mem_iff_getElem.mp hm
      rw [List.getElem_take] at ek
      rw [List.length_take] at hk'
      obtain ⟨hi2, ei⟩ := List.getElem?_eq_some_iff.mp hd
      have := (List.getElem_inj hnd (i := k) (j := i)).mp (ek.trans ei.symm)
      omega
    refine ⟨(ds.take i).map fun n => (ik n, V.non), ik d, rfl, hD7, ?_, same_mut (p1.trans sA) hD, ?_⟩
    · rw [List.length_map, List.length_take, sizeLine_eq]; omega
    · rw [upd_same, putK_new _ (valV_nones hni), List.take_add_one, hd, List.map_append]
      rfl
  · rintro H3 ⟨p1, p2⟩
    rw [List.take_length] at p2
    exact q _ H3 (s2.trans p1) ⟨D, rfl, hD0, p2⟩
end Pz
end
section
set_option Elab.async false
set_option linter.all false
set_option maxRecDepth 100000
set_option maxHeartbeats 4000000
namespace Pz
open PySem PySem.Spec PyProof.Rows L2
/-! ### what has been met -/
def oV : Option Nat → V
  | none => .non
  | some h => .int (h : Int)
def cmV (came : Pt.Came) : List (L2.Key × V) := came.map fun e => (ik e.1, oV e.2)
theorem cm_val {came : Pt.Came} (nd : (Pt.kys came).Nodup) {x : Nat} {o : Option Nat} (h : (x, o) ∈ came) : valV (cmV came) (ik x) = some (oV o) := by
  induction came with
  | nil => cases h
  | cons e came ih =>
    have nd' : (e.1 :: Pt.kys came).Nodup := nd
    rw [List.nodup_cons] at nd'
    by_cases he : e.1 = x
    · rcases List.mem_cons.mp h with h | h
      · rw [← h]
        exact valV_pos (p := (ik x, oV o)) rfl
      · exfalso
        apply nd'.1
        rw [he]
        exact List.mem_map.mpr ⟨_, h, rfl⟩
    · rcases List.mem_cons.mp h with h | h
      · rw [← h] at he; exact absurd rfl he
      · exact (valV_neg (p := (ik e.1, oV e.2)) (fun z => he (ik_inj z))).trans (ih nd'.2 h)
theorem cm_none {came : Pt.Came} {x : Nat} (h : x ∉ Pt.kys came) : valV (cmV came) (ik x) = none := by
  induction came with
  | nil => rfl
  | cons e came ih =>
    have h' : x ∉ e.1 :: Pt.kys came := h
    rw [List.mem_cons, not_or] at h'
    exact (valV_neg (p := (ik e.1, oV e.2)) (fun z => h'.1 (ik_inj z).symm)).trans (ih h'.2)
theorem cm_some {came : Pt.Came} (nd : (Pt.kys came).Nodup) {x : Nat} (h : x ∈ Pt.kys came) : (valV (cmV came) (ik x)).isSome = true := by
  obtain ⟨e, he, rfl⟩ := List.mem_map.mp h
  rw [cm_val nd (x := e.1) (o := e.2) he]
  rfl
theorem cm_put {came : Pt.Came} {c h : Nat} (hc : c ∉ Pt.kys came) : putK (cmV came) (ik c) (.int (h : Int)) = cmV (came ++ [(c, some h)]) := by
  rw [putK_new _ (cm_none hc)]
  unfold cmV
  rw [List.map_append]
  rfl
theorem over0_enm (n : Nat) (l : List Int) (h : l.length = n) : ((enm l).filter fun d => decide (0 < d.2)).map (fun d => d.1) = Pt.over0 n l := by
  subst h
  unfold Pt.over0
  have e : enm l = (List.range l.length).map fun i => (i, l.getD i 0) := by
    apply List.ext_getElem?
    intro i
    rw [List.getElem?_map]
    rcases Nat.lt_or_ge i l.length with z | z
    · rw [enm_get (List.getElem?_eq_getElem z), List.getElem?_range z]
      show some (i, l[i]) = some (i, l.getD i 0)
      rw [List.getD, List.getElem?_eq_getElem z]; rfl
    · rw [List.getElem?_eq_none (by rw [enm_len]; exact z), List.getElem?_eq_none (by rw [List.length_range]; exact z)]
      rfl
  rw [e, List.filter_map, List.map_map]
  exact List.map_id _
section
variable {P : Program} {w : World} {K : PySem.W.Frag} {mg : Str → Option Value} {base : Heap}
theorem nv_snoc (l : List Nat) (a : Nat) : nv l ++ [V.int (a : Int)] = nv (l ++ [a]) := by unfold nv; rw [List.map_append]; rfl
/-! ### way -/
def spWay (CU : Addr) : Sp := fun vs H Q _ => ∃ i : Ps, vs = [.ref i.P] ∧ i.In CU H ∧ i.Ok ∧ (∀ H' R, Same H H' → Pt.Stop i.t i.wt i.kvs i.left R → Q .non H') ∧
  ∀ H' F found, Same H H' → H F = none → H' F = some (.lst (nv found)) → Pt.Way i.t i.wt i.kvs i.left found.reverse → Q (.ref F) H'
abbrev PWay (P : Program) (w : World) (K : PySem.W.Frag) (mg : Str → Option Value) (base : Heap) : Prop := PmM P w K mg base (He.ma K (CU K) "way") 2 ["self"] (spWay (CU K))
theorem sc_P_way : FnScope ["self", "line", "came", "here", "found", "one", "block", "more"] ["self"] (defScope s_P_way) := ⟨rfl, rfl, rfl, by decide +kernel, rfl, by decide +kernel, by decide +kernel⟩
theorem ok_P_way (T : Tx K mg) (GB : PBeside P w K mg base) (D : DfM K (CU K) "way" "Purses.way" s_P_way (He.ma K (CU K) "way")) : PWay P w K mg base := by
  refine D.pm sc_P_way (fun _ _ _ _ _ _ us hl => match us, hl with | [_], _ => rfl) (fun vs H Q E h => ?_) (fun cdv A outer s H vs Q E hr h => ?_)
  · obtain ⟨i, rfl, _⟩ := h; rfl
  · obtain ⟨i, rfl, hI, hO, kN, kF⟩ := h
    have h10 := hO.le
    have hll := hO.flow.len
    have hun : (A.deeper (envOfC "Purses.way" (defScope s_P_way) s.heap.objs.size (He.ma K (CU K) "way") cdv)).units + 200 < cLine := by have := hr.un; omega
    have hu1 : (A.deeper (envOfC "Purses.way" (defScope s_P_way) s.heap.objs.size (He.ma K (CU K) "way") cdv)).units + 1 < cLine := by omega
    have hu64 : (A.deeper (envOfC "Purses.way" (defScope s_P_way) s.heap.objs.size (He.ma K (CU K) "way") cdv)).units + 64 < cLine := by omega
    refine ss_cons (s_setLc 1 (P := fun z H1 => ∃ LN, z = .ref LN ∧ H LN = none ∧ H1 LN = some (.lst (nv (Pt.over0 i.t.length i.left)))) (CPL.imp (cpl_lc2 [("block", 6), ("more", 7)] (i := 6) (j := 7) (ds := enm i.left) (fun d : Nat × Int => decide (0 < d.2)) (fun d : Nat × Int => d.1) RNat
      (ci_enumL T.enum (CP.imp (cv_left T hI (cv_var 0 rfl)) fun z H1 s1 e => by rw [e]; exact isLst_iv (hI.m s1).left) rt_int.m) (fun _ _ s => s) rt_nat (by rw [enm_len, hll]; omega) ?_
      (blkOk_by (own := [("block", 6), ("more", 7)]) (N := ["self", "line", "came", "here", "found", "one", "block", "more"]) (sc := defScope s_P_way) (by decide +kernel))
      (fun _ _ _ _ _ => pg_tup rfl (pgs_cons (pg_name (i := 6) sc_P_way.nd rfl (Or.inl rfl)) (pgs_cons (pg_name (i := 7) sc_P_way.nd rfl (Or.inl rfl)) pgs_nil))) (fun _ _ => rfl)) fun z H1 _ ⟨a, xs, e1, e2, e3, e4⟩ => ⟨a, e1, e2, by rw [e3, nat_nv e4, over0_enm _ _ hll]⟩) (fun z H1 s1 ⟨LN, ez, hLN0, hLN⟩ => ?_) sc_P_way.nd)
    · intro s0 H0 C cl fp d x y H6 hd s6 hx hy
      have hx : x = .int (d.1 : Int) := hx
      have hy : y = .int d.2 := hy
      subst hx hy
      exact ⟨cts_one (ct_gt (cv_var 7 rfl) cv_int), fun _ => cv_var 6 rfl⟩
    subst ez
    have hnd0 : (Pt.over0 i.t.length i.left).Nodup := List.Nodup.sublist List.filter_sublist List.nodup_range
    have hln0 : (Pt.over0 i.t.length i.left).length ≤ 10 := by
      have := List.length_filter_le (fun b => decide (0 < i.left.getD b 0)) (List.range i.t.length)
      rw [List.length_range] at this
      unfold Pt.over0
      omega
    refine ss_cons (s_setDc 2 (P := fun z H2 => ∃ CM, z = .ref CM ∧ H1 CM = none ∧ H2 CM = some (.dK ((Pt.over0 i.t.length i.left).map fun n => (ik n, V.non)))) (cpd_none [("block", 6)] (j := 6) (ci_list ((cv_var 1 rfl).imp fun z H2 s2 e => ⟨LN, _, e, s2 _ _ hLN, nat_paired _⟩) rt_nat.m) hnd0 (by omega)
      (blkOk_by (own := [("block", 6)]) (N := ["self", "line", "came", "here", "found", "one", "block", "more"]) (sc := defScope s_P_way) (by decide +kernel)) (fun _ _ _ _ _ => pg_name (i := 6) sc_P_way.nd rfl (Or.inl rfl)) (fun _ _ _ _ _ _ _ => cv_var 6 rfl) (fun _ => rfl)) (fun z H2 s2 ⟨CM, ez, hCM0, hCM⟩ => ?_) sc_P_way.nd)
    subst ez
    have hCMH : H CM = none := s1.free hCM0
    have hLC : LN ≠ CM := fun e => by rw [← e, hLN] at hCM0; cases hCM0
    have s12 := s1.trans s2
    refine ss_cons (s_while (m0 := i.t.length) (fun m σ' H' => ∃ came k he fo on, σ' = [some (.ref i.P), some (.ref LN), some (.ref CM), he, fo, on, none, none] ∧ Same H H' ∧ H' LN = some (.lst (nv ((Pt.kys came).drop k))) ∧ H' CM = some (.dK (cmV came)) ∧ Pt.Bfs i.t i.wt i.kvs i.left came k ∧ k ≤ came.length ∧ m = i.t.length - k)
      ⟨(Pt.over0 i.t.length i.left).map fun b => (b, none), 0, none, none, none, rfl, s12, ?_, ?_, Pt.bfs_start _ _ _ _, Nat.zero_le _, rfl⟩ (fun m σ' H' st => ?_))
    · rw [s2 _ _ hLN, List.drop_zero]
      show _ = some (HO.lst (nv (((Pt.over0 i.t.length i.left).map fun b => (b, (none : Option Nat))).map (·.1))))
      rw [List.map_map]
      congr 3
      exact (List.map_id _).symm
    · rw [hCM]
      unfold cmV
      rw [List.map_map]
      rfl
    · obtain ⟨came, k, he, fo, on, rfl, p1, p2, p3, B, hk, rfl⟩ := st
      have hcl := B.le
      refine ⟨!((Pt.kys came).drop k).isEmpty, ct_neNil hu64 (cv_var 1 rfl) p2, fun hne H3 s3 => ?_, fun hne H3 s3 => ?_⟩
      · have hkl : k < came.length := by
          rcases Nat.lt_or_ge k came.length with z | z
          · exact z
          · rw [List.drop_eq_nil_of_le (by rw [List.length_map]; exact z)] at hne
            cases hne
        have hkl' : k < (Pt.kys came).length := by rw [List.length_map]; exact hkl
        obtain ⟨here, hhere⟩ : ∃ here, (Pt.kys came)[k]? = some here := ⟨_, List.getElem?_eq_getElem hkl'⟩
        have hdrop : (Pt.kys came).drop k = here :: (Pt.kys came).drop (k + 1) := by
          rw [List.drop_eq_getElem_cons hkl']
          rw [List.getElem?_eq_getElem hkl'] at hhere
          rw [Option.some.inj hhere]
        have hht : here < i.t.length := B.lt here (List.mem_of_getElem? hhere)
        have p2' : H3 LN = some (.lst (.int (here : Int) :: nv ((Pt.kys came).drop (k + 1)))) := by
          rw [s3 _ _ p2, hdrop]; rfl
        refine ss_cons (s_setE 3 (re_pop0 (cv_var 1 rfl) p2' fun H4 s4 h4 => ?_) (hN := sc_P_way.nd))
        show RSs _ _ _ [some (.ref i.P), some (.ref LN), some (.ref CM), some (.int (here : Int)), fo, on, none, none] (L2.upd H4 LN (.lst (nv ((Pt.kys came).drop (k + 1)))))
        have p3' : (L2.upd H4 LN (.lst (nv ((Pt.kys came).drop (k + 1))))) CM = some (.dK (cmV came)) := by rw [upd_ne (Ne.symm hLC)]; exact s4 _ _ (s3 _ _ p3)
        have pS : Same H (L2.upd H4 LN (.lst (nv ((Pt.kys came).drop (k + 1))))) := same_mut ((p1.trans s3).trans s4) hLN0
        have p2'' : (L2.upd H4 LN (.lst (nv ((Pt.kys came).drop (k + 1))))) LN = some (.lst (nv ((Pt.kys came).drop (k + 1)))) := upd_same
        generalize L2.upd H4 LN (.lst (nv ((Pt.kys came).drop (k + 1)))) = H5 at p3' pS p2''
        refine ss_cons (s_if (b := decide (i.left.getD here 0 < 0)) (ct_lt (cv_leftAt T (hI.m pS) (cv_var 0 rfl) (by omega) (cv_var 3 rfl)) cv_int) (fun hneg H6 s6 => ?_) (fun hneg H6 s6 => ss_nil ?_))
        · have hneg := of_decide_eq_true hneg
          have pS6 := pS.trans s6
          have hC6 := s6 _ _ p3'
          refine ss_cons (s_set 4 (P := fun z H7 => ∃ FD, z = .ref FD ∧ H6 FD = none ∧ H7 FD = some (.lst (nv [here]))) (CP.imp (cp_lst (A := fun vs _ => vs = [.int (here : Int)]) (ca_v (cv_var 3 rfl) ca_nil) (fun _ _ _ _ e => e) (fun vs _ e => by rw [e]; show 1 ≤ 1000; decide)) fun z H7 _ ⟨FD, vs, e1, e2, e3, e4⟩ => ⟨FD, e1, e2, by rw [e3, e4]; rfl⟩) (fun z H7 s7 ⟨FD, ez, hFD0, hFD⟩ => ?_) (hN := sc_P_way.nd))
          subst ez
          have hFDC : FD ≠ CM := fun e => by rw [e, hC6] at hFD0; cases hFD0
          have hFDH : H FD = none := pS6.free hFD0
          refine ss_cons (s_while (m0 := k) (fun m σ'' H'' => ∃ x fnd, σ'' = [some (.ref i.P), some (.ref LN), some (.ref CM), some (.int (here : Int)), some (.ref FD), on, none, none] ∧ Same H H'' ∧ H'' FD = some (.lst (nv fnd)) ∧ H'' CM = some (.dK (cmV came)) ∧ Pt.Trail i.t i.wt i.kvs came fnd x m ∧ fnd.length ≤ 100 ∧ ∃ r, fnd = here :: r)
            ⟨here, [here], rfl, pS6.trans s7, hFD, s7 _ _ hC6, Pt.trail_start hhere, by show 1 ≤ 100; decide, [], rfl⟩ (fun j σ'' H8 st => ?_))
          · obtain ⟨x, fnd, rfl, q1, q2, q3, Tr, hfl, r, hfr⟩ := st
            obtain ⟨init, hsp, _⟩ := Tr.spl
            have hat := Tr.at_
            obtain ⟨e, hce, hex⟩ : ∃ e, came[j]? = some e ∧ e.1 = x := by
              have h1 : (came.map (·.1))[j]? = some x := hat
              rw [List.getElem?_map] at h1
              cases h2 : came[j]? with
              | none => rw [h2] at h1; cases h1
              | some e => rw [h2] at h1; exact ⟨e, rfl, Option.some.inj h1⟩
            have hxm : (x, e.2) ∈ came := by rw [← hex]; exact List.mem_of_getElem? hce
            have hval : valV (cmV came) (ik x) = some (oV e.2) := cm_val B.nd hxm
            have hix : atI fnd (-1) = some x := by
              rw [hsp, atI_last (by rw [List.length_append, List.length_singleton]; omega)]
              congr 1
              simp
            have hlast : ∀ {H9 : Hp}, Same H8 H9 → ∀ {on' pa pb pc kk pd}, CV (cxOf CX0 P w K mg base ["self", "line", "came", "here", "found", "one", "block", "more"] "Purses.way" (defScope s_P_way) (He.ma K (CU K) "way") cdv A outer s H E).nox (.Subscript (.Name "found" pa) (.UnaryOp .USub (.Constant (.int 1) kk pd) pb) pc) [some (.ref i.P), some (.ref LN), some (.ref CM), some (.int (here : Int)), some (.ref FD), on', none, none] H9 (.int (x : Int)) := fun {H9} s9 {on' pa pb pc kk pd} =>
              CP.imp (cp_ixL (R := RNat) (ds := fnd) (d := x) (i := -1) ((cv_var 4 rfl).imp fun z H10 s10 ez => by subst ez; exact ⟨FD, nv fnd, rfl, s10 _ _ (s9 _ _ q2), nat_paired _⟩) (cv_neg cv_int) hix rt_nat.m) fun z H10 _ ez => ez
            refine ⟨!decide (oV e.2 = .non), ct_notN (cv_dgetK (kvs := cmV came) (k := ik x) hu1 (cv_var 2 rfl) q3 (hlast (Same.refl _)) hval), fun hc H9 s9 => ?_, fun hc H9 s9 => ?_⟩
            · cases ho : e.2 with
              | none => rw [ho] at hc; simp [oV] at hc
              | some h =>
                rw [ho] at hxm hval
                refine ss_one (s_append (P := fun z _ => z = .int (h : Int)) (xs := nv fnd) (cv_var 4 rfl) (s9 _ _ q2) (by rw [List.length_map]; omega) (cv_dgetK (kvs := cmV came) (k := ik x) (v := .int (h : Int)) hu1 (cv_var 2 rfl) (s9 _ _ q3) (hlast s9) hval) (fun z H10 s10 ez hz => ?_))
                subst ez
                obtain ⟨j', hj', Tr'⟩ := Pt.Trail.up B Tr hxm
                have hnl := Pt.nd_len i.t.length _ Tr'.nd fun y hy => by
                  obtain ⟨init', hs', hi'⟩ := Tr'.spl
                  rw [hs', List.mem_append, List.mem_singleton] at hy
                  rcases hy with hy | hy
                  · obtain ⟨n, _, hn⟩ := hi' y hy
                    exact B.lt y (List.mem_of_getElem? hn)
                  · rw [hy]; exact B.lt h (List.mem_of_getElem? Tr'.at_)
                refine ⟨j', hj', h, fnd ++ [h], rfl, same_mut ((q1.trans s9).trans s10) hFDH, ?_, ?_, Tr', by omega, r ++ [h], by rw [hfr]; rfl⟩
                · rw [upd_same]
                  congr 2
                  exact nv_snoc _ _
                · rw [upd_ne (Ne.symm hFDC)]
                  exact s10 _ _ (s9 _ _ q3)
            · cases ho : e.2 with
              | some h => rw [ho] at hc; simp [oV] at hc
              | none =>
                rw [ho] at hxm
                have hw := Pt.Trail.way B Tr hxm hfr hneg
                exact ss_one (s_ret (P := fun z _ => z = .ref FD) (cv_var 4 rfl) fun z H10 s10 ez => by subst ez; exact kF H10 FD fnd ((q1.trans s9).trans s10) hFDH (s10 _ _ (s9 _ _ q2)) hw)
        · have hneg := of_decide_eq_false hneg
          have pS6 := pS.trans s6
          have h6L := s6 _ _ p2''
          have h6C := s6 _ _ p3'
          refine ss_one (s_forLA (R := RNat) (Z := fun ys => ∀ c, c ∈ ys ↔ Pt.Edge i.t i.wt i.kvs here c) (fun H7 s7 Q' q' => re_meth T.cU T.mB GB hr (P := fun z _ => z = .ref i.P) (A := fun vs _ => vs = [.int (here : Int)]) (cv_var 0 rfl) (fun H8 s8 => ca_v (cv_var 3 rfl) ca_nil) fun z H8 s8 ez => by
              obtain ⟨dx, vw, h1, _⟩ := (hI.m ((pS6.trans s7).trans s8)).obj
              refine ⟨i.P, dx, _, ez, h1, rfl, fun vs H9 s9 ev => ?_⟩
              subst ev
              exact ⟨i, here, rfl, hI.m (((pS6.trans s7).trans s8).trans s9), hO, hht, fun a ys xs H10 s10 ha h2 h3 h4 => q' _ _ ((s8.trans s9).trans s10) ⟨ys, a, xs, h4, rfl, ((s7.trans s8).trans s9).free ha, h2, h3⟩⟩) rt_nat
            (fun ys a xs H7 n σ'' H'' => ∃ came' on', σ'' = [some (.ref i.P), some (.ref LN), some (.ref CM), some (.int (here : Int)), fo, on', none, none] ∧ Same H H'' ∧ TS H7 H'' ∧ a ≠ LN ∧ H'' a = some (.lst xs) ∧ H'' LN = some (.lst (nv ((Pt.kys came').drop (k + 1)))) ∧ H'' CM = some (.dK (cmV came')) ∧ Pt.Bfs i.t i.wt i.kvs i.left came' k ∧ k < came'.length ∧ (Pt.kys came')[k]? = some here ∧ ∀ c ∈ ys.take n, c ∈ Pt.kys came')
            (fun ys a xs H7 s7 ha0 ha z => ⟨came, on, rfl, pS6.trans s7, fun _ _ h => h, (fun e => by rw [e, h6L] at ha0; cases ha0), ha, s7 _ _ h6L, s7 _ _ h6C, B, hkl, hhere, fun c hc => by rw [List.take_zero] at hc; cases hc⟩)
            (fun ys a xs H7 n σ'' H'' ⟨_, _, _, _, h1, _, h2, _⟩ => ⟨h1, h2⟩)
            (fun ys a xs H7 n c x σ'' H8 z s7 ha0 hc st hx => ?_) (fun ys a xs H7 σ'' H8 z s7 st => ?_))
          · obtain ⟨came', on', rfl, q1, q2, q3, q4, q5, q6, B', hk', hh', q7⟩ := st
            have hx : x = .int (c : Int) := hx
            subst hx
            have hcy : c ∈ ys := List.mem_of_getElem? hc
            have hedge := (z c).mp hcy
            have etake : ys.take (n + 1) = ys.take n ++ [c] := by rw [List.take_add_one, hc]; rfl
            refine ⟨_, pg_name (i := 5) sc_P_way.nd rfl (Or.inl rfl), ?_⟩
            show RSs _ _ _ [some (.ref i.P), some (.ref LN), some (.ref CM), some (.int (here : Int)), fo, some (.int (c : Int)), none, none] H8
            refine ss_one (s_if (b := !(valV (cmV came') (ik c)).isSome) (ct_dnotIn (kvs := cmV came') (k := ik c) hu1 (cv_var 5 rfl) (cv_var 2 rfl) q6) (fun hb H9 s9 => ?_) (fun hb H9 s9 => ss_nil ?_))
            · have hcn : c ∉ Pt.kys came' := fun hm => by rw [cm_some B'.nd hm] at hb; cases hb
              have B'' := Pt.Bfs.add B' hk' hh' hedge (hedge.lt hO.flow) hcn
              have hcl' := B'.le
              refine ss_cons (s_dput (P := fun y _ => y = .int (here : Int)) (Pi := fun y _ => y = .int (c : Int)) hu1 (cv_var 3 rfl) (cv_var 2 rfl) (cv_var 5 rfl) (mon_eq _) (fun y y2 H10 s10 ey ey2 => ⟨L2.upd H10 CM (.dK (cmV (came' ++ [(c, some here)]))), ?_, ?_⟩))
              · subst ey ey2
                have h1 := DPut.k (k := ik c) (v := .int (here : Int)) (s10 _ _ (s9 _ _ q6)) (by unfold cmV; rw [List.length_map, sizeLine_eq]; omega)
                rw [cm_put hcn] at h1
                exact h1
              · have hL10 : (L2.upd H10 CM (.dK (cmV (came' ++ [(c, some here)])))) LN = some (.lst (nv ((Pt.kys came').drop (k + 1)))) := by rw [upd_ne hLC]; exact s10 _ _ (s9 _ _ q5)
                have hS10 : Same H (L2.upd H10 CM (.dK (cmV (came' ++ [(c, some here)])))) := same_mut ((q1.trans s9).trans s10) hCMH
                have hT10 : TS H7 (L2.upd H10 CM (.dK (cmV (came' ++ [(c, some here)])))) := TS.trans (TS.trans q2 (Pz.Same.ts (s9.trans s10))) (ts_upd (s10 _ _ (s9 _ _ q6)) fun xs e => by cases e)
                have haC : a ≠ CM := fun e => by rw [e, q6] at q4; cases q4
                have ha10 : (L2.upd H10 CM (.dK (cmV (came' ++ [(c, some here)])))) a = some (.lst xs) := by rw [upd_ne haC]; exact s10 _ _ (s9 _ _ q4)
                have hC10 : (L2.upd H10 CM (.dK (cmV (came' ++ [(c, some here)])))) CM = some (.dK (cmV (came' ++ [(c, some here)]))) := upd_same
                generalize L2.upd H10 CM (.dK (cmV (came' ++ [(c, some here)]))) = H11 at hL10 hS10 hT10 ha10 hC10
                refine ss_one (s_append (P := fun y _ => y = .int (c : Int)) (xs := nv ((Pt.kys came').drop (k + 1))) (cv_var 1 rfl) hL10 (by rw [List.length_map, List.length_drop, List.length_map]; omega) (cv_var 5 rfl) (fun y H12 s12 ey hL12 => ?_))
                subst ey
                refine ⟨came' ++ [(c, some here)], _, rfl, same_mut (hS10.trans s12) hLN0, TS.trans (TS.trans hT10 (Pz.Same.ts s12)) (ts_upd hL12 fun xs e => by cases e), q3, ?_, ?_, ?_, B'', by rw [List.length_append]; omega, ?_, ?_⟩
                · rw [upd_ne q3]; exact s12 _ _ ha10
                · rw [upd_same, Pt.kys_snoc, List.drop_append_of_le_length (by rw [List.length_map]; omega)]
                  congr 2
                  exact nv_snoc _ _
                · rw [upd_ne (Ne.symm hLC)]; exact s12 _ _ hC10
                · rw [Pt.kys_snoc]; exact Pt.getElem?_snoc_lt hh'
                · intro c' hc'
                  rw [etake, List.mem_append, List.mem_singleton] at hc'
                  rw [Pt.kys_snoc, List.mem_append, List.mem_singleton]
                  exact hc'.imp (q7 c') id
            · have hcm : c ∈ Pt.kys came' := by
                by_cases hm : c ∈ Pt.kys came'
                · exact hm
                · rw [cm_none hm] at hb; cases hb
              refine ⟨came', _, rfl, q1.trans s9, TS.trans q2 (Pz.Same.ts s9), q3, s9 _ _ q4, s9 _ _ q5, s9 _ _ q6, B', hk', hh', fun c' hc' => ?_⟩
              rw [etake, List.mem_append, List.mem_singleton] at hc'
              rcases hc' with hc' | hc'
              · exact q7 c' hc'
              · rw [hc']; exact hcm
          · obtain ⟨came', on', rfl, q1, q2, q3, q4, q5, q6, B', hk', hh', q7⟩ := st
            rw [List.take_length] at q7
            have hcl' := B'.le
            exact ⟨i.t.length - (k + 1), by omega, came', k + 1, _, fo, on', rfl, q1, q5, q6, B'.next hh' (by omega) fun c hc => q7 c ((z c).mpr hc), hk', rfl⟩
      · have hke : k = came.length := by
          rcases Nat.lt_or_ge k came.length with z | z
          · exfalso
            have : ((Pt.kys came).drop k).length = came.length - k := by rw [List.length_drop, List.length_map]
            cases e : (Pt.kys came).drop k with
            | nil => rw [e] at this; simp at this; omega
            | cons a l => rw [e] at hne; cases hne
          · omega
        subst hke
        exact ss_one (s_ret cv_non fun z H4 s4 ez => by subst ez; exact kN H4 _ ((p1.trans s3).trans s4) B.stop)
end
end Pz
end
section
set_option Elab.async false
set_option linter.all false
set_option maxRecDepth 100000
set_option maxHeartbeats 4000000
namespace Pt
theorem aput_len (kvs : List Ent) (k : Pr) (v : Int) : (aput kvs k v).length ≤ kvs.length + 1 := by
  unfold aput
  split
  · rw [List.length_map]; omega
  · rw [List.length_append]; simp
theorem upd_len (w : List Int) (m : Int) (kvs : List Ent) (p : Pr) : (upd w m kvs p).length ≤ kvs.length + 1 := by
  unfold upd
  split <;> exact aput_len _ _ _
theorem fold_len (w : List Int) (m : Int) : ∀ (ps : List Pr) (kvs : List Ent), (ps.foldl (upd w m) kvs).length ≤ kvs.length + ps.length
  | [], kvs => by simp
  | p :: ps, kvs => by
    rw [List.foldl_cons, List.length_cons]
    have := fold_len w m ps (upd w m kvs p)
    have := upd_len w m kvs p
    omega
theorem upd_key {w : List Int} {m : Int} {kvs : List Ent} {p k : Pr} (h : k ∈ kvs.map (·.1)) : k ∈ (upd w m kvs p).map (·.1) := by
  unfold upd
  split
  · exact keys_aput.mpr (.inl h)
  · exact keys_aput.mpr (.inl h)
theorem fold_key {w : List Int} {m : Int} {k : Pr} : ∀ (ps : List Pr) {kvs : List Ent}, k ∈ kvs.map (·.1) → k ∈ (ps.foldl (upd w m) kvs).map (·.1)
  | [], _, h => h
  | p :: ps, kvs, h => fold_key ps (upd_key h)
theorem prs_rev {found : List Nat} : ((List.range (((found.length : Int) - 1 - 0).toNat)).map fun k : Nat => (found.length : Int) - 1 - (k : Int)).map (fun a : Int => (found.getD a.toNat 0, found.getD (a - 1).toNat 0)) = prs found.reverse := by
  rw [List.map_map]
  apply List.ext_getElem?
  intro i
  rw [List.getElem?_map]
  rcases Nat.lt_or_ge (i + 1) found.length with z | z
  · rw [List.getElem?_range (by omega), prs_get _ _ (by rw [List.length_reverse]; exact z)]
    show some (found.getD ((found.length : Int) - 1 - (i : Int)).toNat 0, found.getD ((found.length : Int) - 1 - (i : Int) - 1).toNat 0) = _
    have e1 : ((found.length : Int) - 1 - (i : Int)).toNat = found.length - 1 - i := by omega
    have e2 : ((found.length : Int) - 1 - (i : Int) - 1).toNat = found.length - 1 - (i + 1) := by omega
    rw [e1, e2]
    congr 2
    · rw [List.getD, List.getD, List.getElem?_reverse (by omega)]
    · rw [List.getD, List.getD, List.getElem?_reverse (by omega)]
  · rw [List.getElem?_eq_none (by rw [List.length_range]; omega), List.getElem?_eq_none (by rw [prs_len, List.length_reverse]; omega)]
    rfl
end Pt
namespace Pz
open PySem PySem.Spec PyProof.Rows L2
theorem ci_listKL {δ : Type} {X : Cx} {tg e : Expr} {σ : L2.St} {H : Hp} {ds : List δ} {R : Rel δ} (h : CP X e σ H (fun v H1 => IsLst R H1 ds v)) (rt : RT1 R) : CI X tg e σ H KL ds R := fun H1 s1 Rc k =>
  ⟨_, pi_list re_pe, h H1 s1 _ fun v H2 s2 ⟨a, xs, e1, h1, p⟩ => ⟨a, e1, ⟨xs, SqL.of h1⟩, k _ H2 s2 (by
    rw [paired_len p]
    exact walk_list.mono (fun H' g => SqL.of (g.2 _ _ h1)) fun i H3 x H' hi g ⟨e2, e3⟩ => by
      subst e2
      obtain ⟨d, q1, q2⟩ := paired_getR p e3
      exact ⟨Same.refl _, d, q1, rt _ _ _ _ g.1 q2⟩)⟩⟩
theorem Pur.dput {C : Addr} {wt : List Int} {cs : List (List Nat)} {kvs kvs' : List Pt.Ent} {left : List Int} {P L G TL : Addr} {H : Hp} (h : Pur C wt cs kvs left P L G TL H) : Pur C wt cs kvs' left P L G TL (L2.upd H G (.dT (kvV kvs'))) := by
  have hG := h.given
  have t : TS H (L2.upd H G (.dT (kvV kvs'))) := ts_upd hG fun xs e => by cases e
  obtain ⟨dx, vw, h1, h2⟩ := h.obj
  obtain ⟨xs, h3, h4⟩ := h.told
  have n1 : P ≠ G := fun e => by rw [e, hG] at h1; cases h1
  have n2 : TL ≠ G := fun e => by rw [e, hG] at h3; cases h3
  have n3 : L ≠ G := fun e => by have := h.left; rw [e, hG] at this; cases this
  exact ⟨⟨dx, vw, by rw [upd_ne n1]; exact h1, rt_w _ _ _ _ t h2⟩, ⟨xs, by rw [upd_ne n2]; exact h3, paired_rt rt_l t h4⟩, by rw [upd_ne n3]; exact h.left, upd_same, h.ne⟩
theorem Pur.lset {C : Addr} {wt : List Int} {cs : List (List Nat)} {kvs : List Pt.Ent} {left left' : List Int} {P L G TL : Addr} {H : Hp} (h : Pur C wt cs kvs left P L G TL H) : Pur C wt cs kvs left' P L G TL (L2.upd H L (.lst (iv left'))) := by
  have hL := h.left
  have t : TS H (L2.upd H L (.lst (iv left'))) := ts_upd hL fun xs e => by cases e
  obtain ⟨dx, vw, h1, h2⟩ := h.obj
  obtain ⟨xs, h3, h4⟩ := h.told
  have n1 : P ≠ L := fun e => by rw [e, hL] at h1; cases h1
  have n3 : G ≠ L := fun e => by have := h.given; rw [e, hL] at this; cases this
  exact ⟨⟨dx, vw, by rw [upd_ne n1]; exact h1, rt_w _ _ _ _ t h2⟩, ⟨xs, by rw [upd_ne h.ne]; exact h3, paired_rt rt_l t h4⟩, upd_same, by rw [upd_ne n3]; exact h.given, h.ne⟩
section
variable {P : Program} {w : World} {K : PySem.W.Frag} {mg : Str → Option Value} {base : Heap}
/-! ### pay -/
def But2 (a b : Addr) (H H' : Hp) : Prop := ∀ c o, c ≠ a → c ≠ b → H c = some o → H' c = some o
def spPay (CU : Addr) : Sp := fun vs H Q _ => ∃ (i : Ps) (F : Addr) (found : List Nat), vs = [.ref i.P, .ref F] ∧ i.In CU H ∧ i.Ok ∧ H F = some (.lst (nv found)) ∧ F ≠ i.L ∧ Pt.Way i.t i.wt i.kvs i.left found.reverse ∧
  ∀ H' kvs' left', But2 i.L i.G H H' → ({ i with kvs := kvs', left := left' } : Ps).In CU H' → ({ i with kvs := kvs', left := left' } : Ps).Ok → Pt.over i.t.length left' < Pt.over i.t.length i.left → Q .non H'
abbrev PPay (P : Program) (w : World) (K : PySem.W.Frag) (mg : Str → Option Value) (base : Heap) : Prop := PmM P w K mg base (He.ma K (CU K) "pay") 1 ["self", "way"] (spPay (CU K))
theorem sc_P_pay : FnScope ["self", "way", "pairs", "one", "other", "backs", "many", "at"] ["self", "way"] (defScope s_P_pay) := ⟨rfl, rfl, rfl, by decide +kernel, rfl, by decide +kernel, by decide +kernel⟩
theorem ok_P_pay (T : Tx K mg) (D : DfM K (CU K) "pay" "Purses.pay" s_P_pay (He.ma K (CU K) "pay")) : PPay P w K mg base := by
  refine D.pm sc_P_pay (fun _ _ _ _ _ _ us hl => match us, hl with | [_, _], _ => rfl) (fun vs H Q E h => ?_) (fun cdv A outer s H vs Q E hr h => ?_)
  · obtain ⟨i, F, found, rfl, _⟩ := h; rfl
  · obtain ⟨i, F, found, rfl, hI, hO, hF, hFL, hW, k⟩ := h
    have h10 := hO.le
    have hwl : i.wt.length = i.t.length := hO.flow.wlen
    have hll : i.left.length = i.t.length := hO.flow.len
    have hu1 : (A.deeper (envOfC "Purses.pay" (defScope s_P_pay) s.heap.objs.size (He.ma K (CU K) "pay") cdv)).units + 1 < cLine := by have := hr.un; omega
    -- the way
    obtain ⟨x, rr, hxr, hx0⟩ := hW.first
    obtain ⟨ll, z, hlz, hz0⟩ := hW.last
    have hfl : found.length ≤ 10 := by
      have := Pt.nd_len i.t.length _ hW.nd hW.lt
      rw [List.length_reverse] at this
      omega
    have hft : ∀ y ∈ found, y < i.t.length := fun y hy => hW.lt y (List.mem_reverse.mpr hy)
    have hfp : 0 < found.length := by
      have := congrArg List.length hxr
      rw [List.length_reverse, List.length_cons] at this
      omega
    have hfx : found = rr.reverse ++ [x] := by
      have := congrArg List.reverse hxr
      rw [List.reverse_reverse, List.reverse_cons] at this
      exact this
    have hfz : found = z :: ll.reverse := by
      have := congrArg List.reverse hlz
      rw [List.reverse_reverse, List.reverse_append] at this
      exact this
    have hixx : atI found (-1) = some x := by
      rw [atI_last hfp]
      congr 1
      simp [hfx]
    have hixz : atI found 0 = some z := atI_nat (j := 0) (by rw [hfz]; rfl)
    have hxt : x < i.t.length := hft x (by rw [hfx]; simp)
    have hzt : z < i.t.length := hft z (by rw [hfz]; simp)
    have hedge : ∀ d ∈ Pt.prs found.reverse, Pt.Edge i.t i.wt i.kvs d.1 d.2 := fun d hd => hW.edge d.1 d.2 hd
    have hprt : ∀ d ∈ Pt.prs found.reverse, d.1 < i.t.length ∧ d.2 < i.t.length := fun d hd => by
      have := Pt.prs_mem (h := d.1) (c := d.2) hd
      exact ⟨hW.lt _ this.1, hW.lt _ this.2⟩
    have hprl : (Pt.prs found.reverse).length ≤ 10 := by rw [Pt.prs_len, List.length_reverse]; omega
    have hLF : ∀ {H1 : Hp}, H1 F = some (.lst (nv found)) → IsLst RNat H1 found (.ref F) := fun h => ⟨F, nv found, rfl, h, nat_paired _⟩
    refine ss_cons (s_setLc 2 (P := fun q H1 => IsLst RNN H1 (Pt.prs found.reverse) q) (CPL.imp (cpl_lc1 [("at", 7)] (j := 7) (ds := (List.range (((found.length : Int) - 1 - 0).toNat)).map fun k : Nat => (found.length : Int) - 1 - (k : Int)) (fun _ => true) (fun a : Int => (found.getD a.toNat 0, found.getD (a - 1).toNat 0)) RNN
      (ci_range3 (i := (found.length : Int) - 1) (j := 0) T.range (cv_sub (cv_len T.len (cv_var 1 rfl) fun q H1 s1 e => by subst e; exact (hLF (s1 _ _ hF)).sized) cv_int) cv_int (cv_neg cv_int) (by omega)) (fun _ _ _ => trivial) rt_nn (by rw [List.length_map, List.length_range]; omega) ?_
      (blkOk_by (own := [("at", 7)]) (N := ["self", "way", "pairs", "one", "other", "backs", "many", "at"]) (sc := defScope s_P_pay) (by decide +kernel)) (fun _ _ _ _ _ => pg_name (i := 7) sc_P_pay.nd rfl (Or.inl rfl)) (fun _ => rfl)) fun q H1 _ h => by
        have := lst_of h
        rw [map_filter_true, Pt.prs_rev] at this
        exact this) (fun q1 H1 s1 hq1 => ?_) sc_P_pay.nd)
    · intro s0 H0 C cl fp d y H' hd s2 hy
      obtain ⟨n, hn, rfl⟩ := List.mem_map.mp hd
      rw [List.mem_range] at hn
      have hy : y = .int ((found.length : Int) - 1 - (n : Int)) := hy
      subst hy
      have e1 : ((found.length : Int) - 1 - (n : Int)).toNat = found.length - 1 - n := by omega
      have e2 : ((found.length : Int) - 1 - (n : Int) - 1).toNat = found.length - 1 - n - 1 := by omega
      refine ⟨cts_nil, fun _ => CP.imp (cp_tup (A := fun vs _ => vs = [.int (found.getD (found.length - 1 - n) 0 : Int), .int (found.getD (found.length - 1 - n - 1) 0 : Int)]) (ca_v (CP.imp (cp_ixL (R := RNat) (ds := found) (d := found.getD (found.length - 1 - n) 0) (i := (found.length : Int) - 1 - (n : Int)) ((cv_var 1 rfl).imp fun u H3 s3 e => by subst e; exact hLF (s3 _ _ (s2 _ _ hF))) (cv_var 7 rfl) ?_ rt_nat.m) fun u H3 _ e => e)
        (ca_v (CP.imp (cp_ixL (R := RNat) (ds := found) (d := found.getD (found.length - 1 - n - 1) 0) (i := (found.length : Int) - 1 - (n : Int) - 1) ((cv_var 1 rfl).imp fun u H3 s3 e => by subst e; exact hLF (s3 _ _ (s2 _ _ hF))) (cv_sub (cv_var 7 rfl) cv_int) ?_ rt_nat.m) fun u H3 _ e => e) ca_nil)) (fun _ _ _ _ e => e) (fun vs _ e => by rw [e]; show 2 ≤ 1000; decide)) fun u H3 _ ⟨T1, vs, g1, g2, g3⟩ => ?_⟩
      · have : ((found.length : Int) - 1 - (n : Int)) = ((found.length - 1 - n : Nat) : Int) := by omega
        rw [this]
        exact atI_nat (by rw [List.getD, List.getElem?_eq_getElem (by omega)]; rfl)
      · have : ((found.length : Int) - 1 - (n : Int) - 1) = ((found.length - 1 - n - 1 : Nat) : Int) := by omega
        rw [this]
        exact atI_nat (by rw [List.getD, List.getElem?_eq_getElem (by omega)]; rfl)
      · show RNN H3 (found.getD ((found.length : Int) - 1 - (n : Int)).toNat 0, found.getD ((found.length : Int) - 1 - (n : Int) - 1).toNat 0) u
        rw [e1, e2]
        exact ⟨T1, _, _, g1, by rw [g2, g3], rfl, rfl⟩
    have hI1 := hI.m s1
    refine ss_cons (s_setLc 5 (P := fun q H2 => IsLst RInt H2 (((Pt.prs found.reverse).filter fun d => decide (Pt.wg i.wt d.1 < 0)).map fun d => Pt.aget i.kvs (d.2, d.1)) q) (CPL.imp (cpl_lc2 [("one", 3), ("other", 4)] (i := 3) (j := 4) (ds := Pt.prs found.reverse) (fun d : NN => decide (Pt.wg i.wt d.1 < 0)) (fun d : NN => Pt.aget i.kvs (d.2, d.1)) RInt
      (ci_list ((cv_var 2 rfl).imp fun u H2 s2 e => by subst e; exact rm_lst rt_nn.m _ _ _ _ s2 hq1) rt_nn.m) (fun _ _ s => s) rt_int (by omega) ?_
      (blkOk_by (own := [("one", 3), ("other", 4)]) (N := ["self", "way", "pairs", "one", "other", "backs", "many", "at"]) (sc := defScope s_P_pay) (by decide +kernel))
      (fun _ _ _ _ _ => pg_tup rfl (pgs_cons (pg_name (i := 3) sc_P_pay.nd rfl (Or.inl rfl)) (pgs_cons (pg_name (i := 4) sc_P_pay.nd rfl (Or.inl rfl)) pgs_nil))) (fun _ _ => rfl)) fun q H2 _ h => lst_of h) (fun q2 H2 s2 hq2 => ?_) sc_P_pay.nd)
    · intro s0 H0 C cl fp d y1 y2 H' hd s2 hy1 hy2
      have hy1 : y1 = .int (d.1 : Int) := hy1
      have hy2 : y2 = .int (d.2 : Int) := hy2
      subst hy1 hy2
      have hdt := hprt d hd
      refine ⟨cts_one (ct_lt (cv_firstAt T (hI1.m s2) (cv_var 0 rfl) (by omega) (cv_var 3 rfl)) cv_int), fun hf => ?_⟩
      have hf := of_decide_eq_true hf
      have hpos : 0 < Pt.aget i.kvs (d.2, d.1) := by
        rcases hedge d hd with ⟨h1, _⟩ | ⟨_, h1⟩
        · omega
        · exact h1
      exact CP.imp (cv_dgetT (kvs := kvV i.kvs) (k := ky (d.2, d.1)) (v := .int (Pt.aget i.kvs (d.2, d.1))) hu1 (cv_given T (hI1.m s2) (cv_var 0 rfl)) (.inl (hI1.m s2).given) (CP.imp (cp_tup (ca_v (cv_var 4 rfl) (ca_v (cv_var 3 rfl) ca_nil)) (fun _ _ _ _ e => e) (fun vs _ e => by rw [e]; show 2 ≤ 1000; decide)) fun u H3 _ ⟨T1, vs, g1, g2, g3⟩ => ⟨T1, g1, by rw [g2, g3]; rfl⟩)
        (by rw [valV_kvV, alook_key (List.mem_map.mpr ⟨_, Pt.aget_pos_mem hpos, rfl⟩)]; rfl)) fun u H3 _ e => e
    have hI2 := hI1.m s2
    have hF2 : H2 F = some (.lst (nv found)) := s2 _ _ (s1 _ _ hF)
    have wayX : ∀ {σ' : L2.St} (hσ : σ'[1]? = some (some (.ref F))) {H4 : Hp} (h4 : H4 F = some (.lst (nv found))) {pa pb pc kk pd}, CV (cxOf CX0 P w K mg base ["self", "way", "pairs", "one", "other", "backs", "many", "at"] "Purses.pay" (defScope s_P_pay) (He.ma K (CU K) "pay") cdv A outer s H E).nox (.Subscript (.Name "way" pa) (.UnaryOp .USub (.Constant (.int 1) kk pd) pb) pc) σ' H4 (.int (x : Int)) := fun {σ'} hσ {H4} h4 {pa pb pc kk pd} =>
      CP.imp (cp_ixL (R := RNat) (ds := found) (d := x) (i := -1) ((cv_var 1 hσ).imp fun u H5 s5 e => by subst e; exact hLF (s5 _ _ h4)) (cv_neg cv_int) hixx rt_nat.m) fun u H5 _ e => e
    have wayZ : ∀ {σ' : L2.St} (hσ : σ'[1]? = some (some (.ref F))) {H4 : Hp} (h4 : H4 F = some (.lst (nv found))) {pa pc kk pd}, CV (cxOf CX0 P w K mg base ["self", "way", "pairs", "one", "other", "backs", "many", "at"] "Purses.pay" (defScope s_P_pay) (He.ma K (CU K) "pay") cdv A outer s H E).nox (.Subscript (.Name "way" pa) (.Constant (.int 0) kk pd) pc) σ' H4 (.int (z : Int)) := fun {σ'} hσ {H4} h4 {pa pc kk pd} =>
      CP.imp (cp_ixL (R := RNat) (ds := found) (d := z) (i := 0) ((cv_var 1 hσ).imp fun u H5 s5 e => by subst e; exact hLF (s5 _ _ h4)) cv_int hixz rt_nat.m) fun u H5 _ e => e
    refine ss_cons (s_set 6 (cp_min (ns := [i.left.getD x 0, -(i.left.getD z 0)] ++ (((Pt.prs found.reverse).filter fun d => decide (Pt.wg i.wt d.1 < 0)).map fun d => Pt.aget i.kvs (d.2, d.1))) T.min (CP.imp (cp_catL (R := RInt) (ds := [i.left.getD x 0, -(i.left.getD z 0)]) (es' := ((Pt.prs found.reverse).filter fun d => decide (Pt.wg i.wt d.1 < 0)).map fun d => Pt.aget i.kvs (d.2, d.1)) rt_int.m (CP.imp (cp_lst (A := fun vs _ => vs = [.int (i.left.getD x 0), .int (-(i.left.getD z 0))]) (ca_v (cv_leftAt T hI2 (cv_var 0 rfl) (by omega) (wayX rfl hF2)) (ca_v (cv_neg (cv_leftAt T hI2 (cv_var 0 rfl) (by omega) (wayZ rfl hF2))) ca_nil)) (fun _ _ _ _ e => e) (fun vs _ e => by rw [e]; show 2 ≤ 1000; decide)) fun u H3 _ ⟨a, vs, g1, _, g3, g4⟩ => (show IsLst RInt H3 [i.left.getD x 0, -(i.left.getD z 0)] u from ⟨a, vs, g1, g3, by rw [g4]; exact .cons rfl (.cons rfl .nil)⟩))
      ((cv_var 5 rfl).imp fun u H3 s3 e => by subst e; exact rm_lst rt_int.m _ _ _ _ s3 hq2) (by rw [List.length_map]; exact Nat.le_trans (Nat.add_le_add_left (Nat.le_trans (List.length_filter_le _ _) hprl) 2) (by decide))) fun u H3 _ ⟨a, ys, g1, _, g3, g4⟩ => ⟨a, g1, by rw [g3, paired_int g4]⟩) (by rw [List.length_append]; show 0 < 2 + _; omega)) (fun q3 H3 s3 ⟨m, em, hm1, hm2⟩ => ?_) (hN := sc_P_pay.nd))
    subst em
    have hmx : m ≤ i.left.getD x 0 := hm2 _ (by simp)
    have hmz : m ≤ -(i.left.getD z 0) := hm2 _ (by simp)
    have hmb : ∀ h c, (h, c) ∈ Pt.prs found.reverse → Pt.wg i.wt h < 0 → m ≤ Pt.aget i.kvs (c, h) := fun h c hd hn => hm2 _ (List.mem_append_right _ (List.mem_map.mpr ⟨(h, c), List.mem_filter.mpr ⟨hd, decide_eq_true hn⟩, rfl⟩))
    have hm0 : 0 < m := by
      rcases List.mem_append.mp hm1 with h | h
      · rcases List.mem_cons.mp h with h | h
        · omega
        · rw [List.mem_singleton] at h; omega
      · obtain ⟨d, hd, e⟩ := List.mem_map.mp h
        have hd := List.mem_filter.mp hd
        have hn := of_decide_eq_true hd.2
        rcases hedge d hd.1 with ⟨h1, _⟩ | ⟨_, h1⟩
        · omega
        · omega
    have hI3 := hI2.m s3
    have s123 := (s1.trans s2).trans s3
    have hq13 : IsLst RNN H3 (Pt.prs found.reverse) q1 := rm_lst rt_nn.m _ _ _ _ (s2.trans s3) hq1
    refine ss_cons (s_for (Kp := KL) (ds := Pt.prs found.reverse) (R := RNN) (ci_listKL ((cv_var 2 rfl).imp fun u H4 s4 e => by subst e; exact rm_lst rt_nn.m _ _ _ _ s4 hq13) rt_nn)
      (fun H4 n σ' H' => ∃ y1 y2, σ' = [some (.ref i.P), some (.ref F), some q1, y1, y2, some q2, some (.int m), none] ∧ KL H4 H' ∧ But1 i.G H H' ∧ ({ i with kvs := ((Pt.prs found.reverse).take n).foldl (Pt.upd i.wt m) i.kvs } : Ps).In (CU K) H')
      (fun H4 s4 => ⟨none, none, rfl, Pz.Same.kl (Same.refl _), fun c o _ e => (s123.trans s4) _ _ e, by rw [List.take_zero]; exact hI3.m s4⟩) (fun _ _ _ _ _ _ ⟨_, _, _, h, _⟩ => h)
      (fun H4 n d y σ' H5 H6 s4 hd st s6 r => ?_) (fun H4 σ' H5 s4 st => ?_))
    · obtain ⟨y1, y2, rfl, p1, p2, p3⟩ := st
      obtain ⟨Ty, y3, y4, ey, hTy, hy3, hy4⟩ := r
      have hy3 : y3 = .int (d.1 : Int) := hy3
      have hy4 : y4 = .int (d.2 : Int) := hy4
      subst hy3 hy4
      have hdm : d ∈ Pt.prs found.reverse := List.mem_of_getElem? hd
      have hdt := hprt d hdm
      have etake : ((Pt.prs found.reverse).take (n + 1)).foldl (Pt.upd i.wt m) i.kvs = Pt.upd i.wt m (((Pt.prs found.reverse).take n).foldl (Pt.upd i.wt m) i.kvs) d := by
        rw [List.take_add_one, hd, List.foldl_append]; rfl
      have hfl2 := Pt.fold_len i.wt m ((Pt.prs found.reverse).take n) i.kvs
      have hk100 := keys_100 hO.flow hO.le
      have htl : ((Pt.prs found.reverse).take n).length ≤ 10 := by rw [List.length_take]; omega
      have hkey := fun k hk => Pt.fold_key (w := i.wt) (m := m) (k := k) ((Pt.prs found.reverse).take n) (kvs := i.kvs) hk
      rw [etake]
      generalize ((Pt.prs found.reverse).take n).foldl (Pt.upd i.wt m) i.kvs = fk at p3 hfl2 hkey
      have p3' : ({ i with kvs := fk } : Ps).In (CU K) H6 := Ps.In.m p3 s6
      have hG6 : H6 i.G = some (.dT (kvV fk)) := p3'.given
      refine g_pair 3 4 ey hTy (hN := sc_P_pay.nd) ?_
      show RSs _ _ _ [some (.ref i.P), some (.ref F), some q1, some (.int (d.1 : Int)), some (.int (d.2 : Int)), some q2, some (.int m), none] H6
      have fin : ∀ {H7 : Hp} {fk' : List Pt.Ent}, Same H6 H7 → KL H4 (L2.upd H7 i.G (.dT (kvV fk'))) ∧ But1 i.G H (L2.upd H7 i.G (.dT (kvV fk'))) ∧ ({ i with kvs := fk' } : Ps).In (CU K) (L2.upd H7 i.G (.dT (kvV fk'))) := fun {H7 fk'} s7 =>
        ⟨KL.trans p1 (KL.trans (Pz.Same.kl (s6.trans s7)) (kl_upd (s7 _ _ hG6) (fun xs e => by cases e) (fun xs e => by cases e))), fun c o hc e => by rw [upd_ne hc]; exact s7 _ _ (s6 _ _ (p2 c o hc e)), Pur.dput (show Pur (CU K) i.wt i.cs fk i.left i.P i.L i.G i.TL H7 from Ps.In.m p3' s7)⟩
      refine ss_one (s_if (b := decide (0 < Pt.wg i.wt d.1)) (ct_gt (cv_firstAt (i := { i with kvs := fk }) T p3' (cv_var 0 rfl) (show d.1 < i.wt.length by omega) (cv_var 3 rfl)) cv_int) (fun hp H7 s7 => ?_) (fun hp H7 s7 => ?_))
      · have hp := of_decide_eq_true hp
        have hgd : (valV (kvV fk) (ky d)).getD (.int 0) = .int (Pt.aget fk d) := by
          rw [valV_kvV]
          unfold Pt.aget
          cases Pt.alook fk d <;> rfl
        have eupd : Pt.upd i.wt m fk d = Pt.aput fk d (Pt.aget fk d + m) := by unfold Pt.upd; rw [if_pos hp]
        rw [eupd]
        refine ss_one (s_dput (P := fun u _ => u = .int (Pt.aget fk d + m)) (Pi := fun u H8 => ∃ q, u = .ref q ∧ H8 q = some (.tup ((ky d).map kV))) (d := i.G) hu1 (cv_add (CP.imp (cv_dget2 (kvs := kvV fk) (k := ky d) (z := .int 0) hu1 (cv_given (i := { i with kvs := fk }) T (Ps.In.m p3' s7) (cv_var 0 rfl)) (.inl (s7 _ _ hG6)) (CP.imp (cp_tup (ca_v (cv_var 3 rfl) (ca_v (cv_var 4 rfl) ca_nil)) (fun _ _ _ _ e => e) (fun vs _ e => by rw [e]; show 2 ≤ 1000; decide)) fun u H8 _ ⟨T1, vs, g1, g2, g3⟩ => ⟨T1, g1, by rw [g2, g3]; rfl⟩) cv_int) fun u H8 _ e => e.trans hgd) (cv_var 6 rfl))
          (cv_given (i := { i with kvs := fk }) T (Ps.In.m p3' s7) (cv_var 0 rfl)) (CP.imp (cp_tup (ca_v (cv_var 3 rfl) (ca_v (cv_var 4 rfl) ca_nil)) (fun _ _ _ _ e => e) (fun vs _ e => by rw [e]; show 2 ≤ 1000; decide)) fun u H8 _ ⟨T1, vs, g1, g2, g3⟩ => ⟨T1, g1, by rw [g2, g3]; rfl⟩) (mon_eq _) (fun u u2 H8 s8 eu ⟨qq, eq, hqq⟩ => ⟨L2.upd H8 i.G (.dT (kvV (Pt.aput fk d (Pt.aget fk d + m)))), ?_, ?_⟩))
        · subst eu eq
          have h1 := DPut.t (v := .int (Pt.aget fk d + m)) (k := ky d) (s8 _ _ (s7 _ _ hG6)) hqq (by unfold kvV; rw [List.length_map, sizeLine_eq]; omega)
          rw [putK_kvV] at h1
          exact h1
        · obtain ⟨f1, f2, f3⟩ := fin (fk' := Pt.aput fk d (Pt.aget fk d + m)) (s7.trans s8)
          exact ⟨_, _, rfl, f1, f2, f3⟩
      · have hp := of_decide_eq_false hp
        have eupd : Pt.upd i.wt m fk d = Pt.aput fk (d.2, d.1) (Pt.aget fk (d.2, d.1) - m) := by unfold Pt.upd; rw [if_neg hp]
        have hpos : 0 < Pt.aget i.kvs (d.2, d.1) := by
          rcases hedge d hdm with ⟨h1, _⟩ | ⟨_, h1⟩
          · exact absurd h1 hp
          · exact h1
        have hin : (d.2, d.1) ∈ fk.map (·.1) := hkey _ (List.mem_map.mpr ⟨_, Pt.aget_pos_mem hpos, rfl⟩)
        rw [eupd]
        refine ss_one (s_dsub (x := Pt.aget fk (d.2, d.1)) (y := m) (d := i.G) (Pi := fun u H8 => ∃ q, u = .ref q ∧ H8 q = some (.tup ((ky (d.2, d.1)).map kV))) hu1 (cv_given (i := { i with kvs := fk }) T (Ps.In.m p3' s7) (cv_var 0 rfl))
          (CP.imp (cp_tup (ca_v (cv_var 4 rfl) (ca_v (cv_var 3 rfl) ca_nil)) (fun _ _ _ _ e => e) (fun vs _ e => by rw [e]; show 2 ≤ 1000; decide)) fun u H8 _ ⟨T1, vs, g1, g2, g3⟩ => ⟨T1, g1, by rw [g2, g3]; rfl⟩) (fun u H8 H9 s ⟨qq, e, h⟩ => ⟨qq, e, s _ _ h⟩) (cv_var 6 rfl)
          (fun u H8 s8 ⟨qq, eq, hqq⟩ => .inr ⟨kvV fk, ky (d.2, d.1), qq, .inl (s8 _ _ (s7 _ _ hG6)), eq, hqq, by rw [valV_kvV, alook_key hin]; rfl⟩)
          (fun u H8 s8 ⟨qq, eq, hqq⟩ => ⟨L2.upd H8 i.G (.dT (kvV (Pt.aput fk (d.2, d.1) (Pt.aget fk (d.2, d.1) - m)))), ?_, ?_⟩))
        · subst eq
          have h1 := DPut.t (v := .int (Pt.aget fk (d.2, d.1) - m)) (k := ky (d.2, d.1)) (s8 _ _ (s7 _ _ hG6)) hqq (by unfold kvV; rw [List.length_map, sizeLine_eq]; omega)
          rw [putK_kvV] at h1
          exact h1
        · obtain ⟨f1, f2, f3⟩ := fin (fk' := Pt.aput fk (d.2, d.1) (Pt.aget fk (d.2, d.1) - m)) (s7.trans s8)
          exact ⟨_, _, rfl, f1, f2, f3⟩
    · obtain ⟨y1, y2, rfl, p1, p2, p3⟩ := st
      rw [List.take_length] at p3
      have hpay := Pt.FlowOk.pay hO.flow (x := x) (z := z) (r := rr) (by rw [← hxr]; exact hW) (by simp only [← hxr, hlz]; simp) hm0 hmx hmz (by rw [← hxr]; exact hmb)
      rw [← hxr] at hpay
      obtain ⟨hxz, hfl', hov⟩ := hpay
      generalize (Pt.prs found.reverse).foldl (Pt.upd i.wt m) i.kvs = fk at p3 hfl'
      have hFG : F ≠ i.G := fun e => by have := hI.given; rw [← e, hF] at this; cases this
      have hF5 : H5 F = some (.lst (nv found)) := p2 _ _ hFG hF
      have hL5 : H5 i.L = some (.lst (iv i.left)) := p3.left
      have hiv : ∀ {l : List Int} {n : Nat}, n < l.length → atI (iv l) (n : Int) = some (.int (l.getD n 0)) := fun {l n} h => atI_nat (by rw [List.getElem?_map, List.getD, List.getElem?_eq_getElem h]; rfl)
      have hixN : ∀ {l : List Int} {n : Nat}, n < l.length → ixN (iv l).length (n : Int) = some n := fun {l n} h => by
        unfold ixN
        rw [List.length_map, if_pos (by omega), if_pos (by omega)]
        rfl
      have hset : ∀ (l : List Int) (n : Nat) (v : Int), (iv l).set n (.int v) = iv (l.set n v) := fun l n v => by unfold iv; rw [List.map_set]
      have hGLne : i.G ≠ i.L := fun e => by have := hI.given; rw [e, hI.left] at this; cases this
      refine ss_cons (op_arith ip_sub (l := i.L) (xs := iv i.left) (k := (x : Int)) (x := i.left.getD x 0) (y := m) (j := x) (cv_left (i := { i with kvs := fk }) T p3 (cv_var 0 rfl)) hL5 (wayX rfl hF5) (hiv (by omega)) (hixN (by omega)) (cv_var 6 rfl) fun H6 s6 hL6 => ?_)
      rw [hset]
      have p6 : ({ i with kvs := fk, left := i.left.set x (i.left.getD x 0 - m) } : Ps).In (CU K) (L2.upd H6 i.L (.lst (iv (i.left.set x (i.left.getD x 0 - m))))) := Pur.lset (show Pur (CU K) i.wt i.cs fk i.left i.P i.L i.G i.TL H6 from Ps.In.m p3 s6)
      have hF6 : (L2.upd H6 i.L (.lst (iv (i.left.set x (i.left.getD x 0 - m))))) F = some (.lst (nv found)) := by rw [upd_ne hFL]; exact s6 _ _ hF5
      have b6 : But2 i.L i.G H (L2.upd H6 i.L (.lst (iv (i.left.set x (i.left.getD x 0 - m))))) := fun c o h1 h2 e => by rw [upd_ne h1]; exact s6 _ _ (p2 c o h2 e)
      have hL6' : (L2.upd H6 i.L (.lst (iv (i.left.set x (i.left.getD x 0 - m))))) i.L = some (.lst (iv (i.left.set x (i.left.getD x 0 - m)))) := upd_same
      generalize L2.upd H6 i.L (.lst (iv (i.left.set x (i.left.getD x 0 - m)))) = H7 at p6 hF6 b6 hL6'
      have hzl : (i.left.set x (i.left.getD x 0 - m)).getD z 0 = i.left.getD z 0 := by
        rw [Pt.getD_set _ _ _ _ (by omega), if_neg (Ne.symm hxz)]
      refine ss_one (op_arith ip_add (l := i.L) (xs := iv (i.left.set x (i.left.getD x 0 - m))) (k := (z : Int)) (x := i.left.getD z 0) (y := m) (j := z) (cv_left (i := { i with kvs := fk, left := i.left.set x (i.left.getD x 0 - m) }) T p6 (cv_var 0 rfl)) hL6' (wayZ rfl hF6) (by rw [hiv (by rw [List.length_set]; omega), hzl]) (hixN (by rw [List.length_set]; omega)) (cv_var 6 rfl) fun H8 s8 hL8 => ?_)
      rw [hset]
      refine k _ fk _ (fun c o h1 h2 e => by rw [upd_ne h1]; exact s8 _ _ (b6 c o h1 h2 e)) (Pur.lset (show Pur (CU K) i.wt i.cs fk (i.left.set x (i.left.getD x 0 - m)) i.P i.L i.G i.TL H8 from Ps.In.m p6 s8)) ⟨hO.tab, hO.le, hO.told, hO.cov, hfl'⟩ ?_
      rw [hov]
      omega
end
end Pz
end
section
set_option Elab.async false
set_option linter.all false
set_option maxRecDepth 100000
set_option maxHeartbeats 4000000
namespace Pz
open PySem PySem.Spec PyProof.Rows L2
/-- a payment: payer, receiver, how much -/
def RPay : Rel Pt.Ent := fun H e v => ∃ T, v = .ref T ∧ H T = some (.tup [.int (e.1.1 : Int), .int (e.1.2 : Int), .int e.2])
theorem rt_pay : RT1 RPay := fun H H' d v s ⟨T, e, h⟩ => ⟨T, e, s _ _ h⟩
section
variable {P : Program} {w : World} {K : PySem.W.Frag} {mg : Str → Option Value} {base : Heap}
/-! ### greatest_payments, payments -/
def rPays (i : List (List Nat) × List Int) (v : V) (H : Hp) : Prop := ∃ es, Pt.GoodPay i.1 i.2 es ∧ IsTup RPay H es v ∧ es.length ≤ 100
abbrev PGPay (P : Program) (w : World) (K : PySem.W.Frag) (mg : Str → Option Value) (base : Heap) : Prop := Pm P w K mg base "greatest_payments" 4 ["ground", "worths"] (SpI (aGW (CG K)) rPays)
theorem sc_greatest_payments : FnScope ["ground", "worths", "purses", "way", "pair"] ["ground", "worths"] (defScope s_greatest_payments) := ⟨rfl, rfl, rfl, by decide +kernel, rfl, by decide +kernel, by decide +kernel⟩
def WaySt (i : Ps) (wy : V) (H : Hp) : Prop := (wy = .non ∧ ∃ R, Pt.Stop i.t i.wt i.kvs i.left R) ∨ ∃ F found, wy = .ref F ∧ H F = some (.lst (nv found)) ∧ F ≠ i.L ∧ Pt.Way i.t i.wt i.kvs i.left found.reverse
theorem ok_greatest_payments (T : Tx K mg) (GI : PUInit P w K mg base) (GW : PWay P w K mg base) (GP : PPay P w K mg base) (D : Df K mg "greatest_payments" s_greatest_payments) : PGPay P w K mg base := by
  refine D.pm sc_greatest_payments (fun _ _ _ _ _ _ us hl => match us, hl with | [_, _], _ => rfl) (fun vs H Q E h => ?_) (fun f cdv A outer s H vs Q E hr h => ?_)
  · obtain ⟨i, ⟨v, u, rfl, _⟩, _⟩ := h; rfl
  · obtain ⟨⟨t, wt⟩, ⟨v, u, rfl, hg, hw, wf, ok⟩, k⟩ := h
    have ok : WOk t.length wt := ok
    have wf : WfG t := wf
    have hg : IsG (CG K) H t v := hg
    have hw : IsW H wt u := hw
    have hun : (A.deeper (envOfC "greatest_payments" (defScope s_greatest_payments) s.heap.objs.size f cdv)).units + 200 < cLine := by have := hr.un; omega
    refine ss_cons (s_setE 2 (re_make T.mkU GI hr T.gU (ca_v (cv_var 0 rfl) (ca_v (cv_var 1 rfl) ca_nil)) fun vs H1 s1 ev a dx h1 h2 h3 => ?_) (hN := sc_greatest_payments.nd))
    subst ev
    have sA : Same H1 (L2.upd (L2.upd H1 dx (.own a)) a (.ins (CU K) dx [])) := same_mut (same_new h2) h1
    refine ⟨a, dx, v, u, t, wt, rfl, upd_same, (hg.m s1).m sA, (hw.m s1).m sA, wf, ok.len, fun H2 L G TL cs hb hL0 hG0 hP hO => ⟨rfl, ?_⟩⟩
    have s2 : Same H1 H2 := fun c o e => hb c o (fun z => by rw [z, h1] at e; cases e) (sA c o e)
    have sH2 : Same H H2 := s1.trans s2
    have hLH : H L = none := (s1.trans sA).free hL0
    have hGH : H G = none := (s1.trans sA).free hG0
    show RSs _ _ _ [some v, some u, some (.ref a), none, none] H2
    have wayArg : ∀ {kvs : List Pt.Ent} {left : List Int} {H3 : Hp} {Q' : VK}, (⟨t, wt, cs, kvs, left, a, L, G, TL⟩ : Ps).In (CU K) H3 → (⟨t, wt, cs, kvs, left, a, L, G, TL⟩ : Ps).Ok →
        (∀ wv H4, Same H3 H4 → WaySt ⟨t, wt, cs, kvs, left, a, L, G, TL⟩ wv H4 → Q' wv H4) → ∀ z H4, Same H3 H4 → z = V.ref a → ∃ a' dx' fs, z = V.ref a' ∧ H4 a' = some (.ins (CU K) dx' fs) ∧ fs.lookup ("way" : Str) = none ∧ spWay (CU K) [.ref a'] H4 Q' E0 := fun {kvs left H3 Q'} hI hO q z H4 s4 ez => by
      have hI4 := Ps.In.m hI s4
      obtain ⟨dx', vw, g1, _⟩ := hI4.obj
      refine ⟨a, dx', _, ez, g1, rfl, ⟨t, wt, cs, kvs, left, a, L, G, TL⟩, rfl, hI4, hO, fun H5 R s5 hS => q .non H5 (s4.trans s5) (.inl ⟨rfl, R, hS⟩), fun H5 F found s5 hF0 hF hW => q (.ref F) H5 (s4.trans s5) (.inr ⟨F, found, rfl, hF, fun e => ?_, hW⟩)⟩
      have hL4 := hI4.left
      rw [e] at hF0
      rw [hF0] at hL4
      cases hL4
    refine ss_cons (s_setE 3 (re_meth0 T.cU T.mW GW (hr.mono (by decide)) (P := fun z _ => z = .ref a) (cv_var 2 rfl) (wayArg (kvs := []) (left := wt) hP hO fun wv H4 s4 hws => ?_)) (hN := sc_greatest_payments.nd))
    show RSs _ _ _ [some v, some u, some (.ref a), some wv, none] H4
    refine ss_cons (s_while (m0 := (Pt.over t.length wt).toNat) (fun m σ' H' => ∃ kvs left wy, σ' = [some v, some u, some (.ref a), some wy, none] ∧ Same H H' ∧ (⟨t, wt, cs, kvs, left, a, L, G, TL⟩ : Ps).In (CU K) H' ∧ (⟨t, wt, cs, kvs, left, a, L, G, TL⟩ : Ps).Ok ∧ WaySt ⟨t, wt, cs, kvs, left, a, L, G, TL⟩ wy H' ∧ m = (Pt.over t.length left).toNat)
      ⟨[], wt, wv, rfl, sH2.trans s4, Ps.In.m (i := ⟨t, wt, cs, [], wt, a, L, G, TL⟩) hP s4, hO, hws, rfl⟩ (fun m σ' H5 st => ?_))
    obtain ⟨kvs, left, wy, rfl, p1, p2, p3, p4, rfl⟩ := st
    refine ⟨!decide (wy = .non), ct_notN (cv_var 3 rfl), fun hc H6 s6 => ?_, fun hc H6 s6 => ?_⟩
    · rcases p4 with ⟨e, _⟩ | ⟨F, found, e, hF, hFL, hW⟩
      · rw [e] at hc; simp at hc
      · subst e
        have p2' := Ps.In.m p2 s6
        refine ss_cons (s_expr (re_meth T.cU T.mP GP (hr.mono (by decide)) (P := fun z _ => z = .ref a) (A := fun vs _ => vs = [.ref F]) (cv_var 2 rfl) (fun H7 s7 => ca_v (cv_var 3 rfl) ca_nil) fun z H7 s7 ez => ?_))
        have p27 := Ps.In.m p2' s7
        obtain ⟨dx', vw, g1, _⟩ := p27.obj
        refine ⟨a, dx', _, ez, g1, rfl, fun vs H8 s8 ev => ?_⟩
        subst ev
        refine ⟨⟨t, wt, cs, kvs, left, a, L, G, TL⟩, F, found, rfl, Ps.In.m p27 s8, p3, s8 _ _ (s7 _ _ (s6 _ _ hF)), hFL, hW, fun H9 kvs' left' hb2 hI9 hO9 hlt => ?_⟩
        have s9 : Same H H9 := fun c o e => hb2 c o (fun z => by rw [z, hLH] at e; cases e) (fun z => by rw [z, hGH] at e; cases e) ((((p1.trans s6).trans s7).trans s8) c o e)
        refine ss_one (s_setE 3 (re_meth0 T.cU T.mW GW (hr.mono (by decide)) (P := fun z _ => z = .ref a) (cv_var 2 rfl) (wayArg (kvs := kvs') (left := left') hI9 hO9 fun wv' H10 s10 hws' => ?_)) (hN := sc_greatest_payments.nd))
        have h0 := Pt.over_nonneg t.length left
        have h0' := Pt.over_nonneg t.length left'
        have hlt : Pt.over t.length left' < Pt.over t.length left := hlt
        exact ⟨(Pt.over t.length left').toNat, by omega, kvs', left', wv', rfl, s9.trans s10, Ps.In.m hI9 s10, hO9, hws', rfl⟩
    · rcases p4 with ⟨e, R, hS⟩ | ⟨F, found, e, _⟩
      · subst e
        have p2' := Ps.In.m p2 s6
        have hflow : Pt.FlowOk t wt kvs left := p3.flow
        have hk100 := keys_100 hflow wf.le
        have hpair : ((kvs.map (·.1)).mergeSort leP).Pairwise Pt.PrLt := by
          have h1 := leP_ord (kvs.map (·.1))
          have h2 : ((kvs.map (·.1)).mergeSort leP).Nodup := (List.mergeSort_perm _ _).nodup_iff.mpr hflow.core.nd
          refine (h1.and h2).imp fun {x y} h => ?_
          rcases h.1 with h3 | ⟨h3, h4⟩
          · exact .inl h3
          · refine .inr ⟨h3, ?_⟩
            rcases Nat.lt_or_ge x.2 y.2 with z | z
            · exact z
            · exact absurd (Prod.ext h3 (by omega)) h.2
        refine ss_one (s_ret (cp_tupleOf (R := RPay) (ds := Pt.paidOf kvs ((kvs.map (·.1)).mergeSort leP)) T.tuple (CP.imp (cp_lc1 [("pair", 4)] (j := 4) (ds := (kvs.map (·.1)).mergeSort leP) (fun q : NN => decide (0 < Pt.aget kvs q)) (fun q : NN => (q, Pt.aget kvs q)) RPay
          (ci_list (CP.imp (cp_sortD (kv := kvV kvs) (ks := kvs.map (·.1)) T.sorted hun (cv_given (i := ⟨t, wt, cs, kvs, left, a, L, G, TL⟩) T p2' (cv_var 2 rfl)) p2'.given (kvV_keys _)) fun z H2 _ h => h.lst) rt_nn.m) (fun _ _ s => s) rt_pay (by rw [List.length_mergeSort, List.length_map]; omega) ?_ rfl sc_greatest_payments.nd
          (blkOk_by (own := [("pair", 4)]) (N := ["ground", "worths", "purses", "way", "pair"]) (sc := defScope s_greatest_payments) (by decide +kernel)) (fun _ _ _ _ _ => pg_name (i := 4) sc_greatest_payments.nd rfl (Or.inl rfl)) (fun _ => rfl)) fun z H7 _ h => lst_of h) rt_pay.m)
          fun z H7 s7 hz => k z H7 ((p1.trans s6).trans s7) ⟨_, Pt.good_pay wf.ok hflow hS (List.mergeSort_perm _ _) hpair, hz, ?_⟩)
        · intro s0 H0 C cl fp q x' H7 hc' s7 hx'
          obtain ⟨Tq, y1, y2, rfl, hT, g1, g2⟩ := hx'
          have g1 : y1 = .int (q.1 : Int) := g1
          have g2 : y2 = .int (q.2 : Int) := g2
          subst g1 g2
          rw [List.mem_mergeSort] at hc'
          have p27 := Ps.In.m p2' s7
          have hval : valV (kvV kvs) (ky q) = some (.int (Pt.aget kvs q)) := by rw [valV_kvV, alook_key hc']; rfl
          refine ⟨cts_one (ct_gt (cv_dgetT (kvs := kvV kvs) (k := ky q) (v := .int (Pt.aget kvs q)) (by show (A.deeper _).units + 1 < _; omega) (cv_given (i := ⟨t, wt, cs, kvs, left, a, L, G, TL⟩) T p27 (cv_var 2 rfl)) (.inl p27.given) ((cv_var 4 rfl).imp fun z H9 s9 e => ⟨Tq, e, s9 _ _ hT⟩) hval) cv_int), fun _ => ?_⟩
          exact CP.imp (cp_tup (A := fun vs _ => vs = [.int (q.1 : Int), .int (q.2 : Int), .int (Pt.aget kvs q)]) (ca_v (cv_ixRaw (xs := [.int (q.1 : Int), .int (q.2 : Int)]) ((cv_var 4 rfl).imp fun z H9 s9 e => ⟨Tq, e, s9 _ _ hT⟩) cv_int rfl) (ca_v (cv_ixRaw (xs := [.int (q.1 : Int), .int (q.2 : Int)]) ((cv_var 4 rfl).imp fun z H9 s9 e => ⟨Tq, e, s9 _ _ hT⟩) cv_int rfl) (ca_v (cv_dgetT (kvs := kvV kvs) (k := ky q) (v := .int (Pt.aget kvs q)) (by show (A.deeper _).units + 1 < _; omega) (cv_given (i := ⟨t, wt, cs, kvs, left, a, L, G, TL⟩) T p27 (cv_var 2 rfl)) (.inl p27.given) ((cv_var 4 rfl).imp fun z H9 s9 e => ⟨Tq, e, s9 _ _ hT⟩) hval) ca_nil))) (fun _ _ _ _ e => e) (fun vs _ e => by rw [e]; show 3 ≤ 1000; decide)) fun z H9 _ ⟨T1, vs, e1, e2, e3⟩ => ⟨T1, e1, by rw [e2, e3]⟩
        · unfold Pt.paidOf
          rw [List.length_map]
          have := List.length_filter_le (fun q : NN => decide (0 < Pt.aget kvs q)) ((kvs.map (·.1)).mergeSort leP)
          rw [List.length_mergeSort, List.length_map] at this
          exact Nat.le_trans this hk100
      · rw [e] at hc; simp at hc
abbrev PPayments (P : Program) (w : World) (K : PySem.W.Frag) (mg : Str → Option Value) (base : Heap) : Prop := Pm P w K mg base "payments" 5 ["ground", "worths"] (SpI (aGW (CG K)) rPays)
theorem sc_payments : FnScope ["ground", "worths"] ["ground", "worths"] (defScope s_payments) := ⟨rfl, rfl, rfl, by decide +kernel, rfl, by decide +kernel, by decide +kernel⟩
theorem ok_payments (GN : PNeedW P w K mg base) (GP : PGPay P w K mg base) (D : Df K mg "payments" s_payments) : PPayments P w K mg base := by
  refine D.pm sc_payments (fun _ _ _ _ _ _ us hl => match us, hl with | [_, _], _ => rfl) (fun vs H Q E h => ?_) (fun f cdv A outer s H vs Q E hr h => ?_)
  · obtain ⟨i, ⟨v, u, rfl, _⟩, _⟩ := h; rfl
  · obtain ⟨i, ⟨v, u, rfl, hg, hw, wf, ok⟩, k⟩ := h
    refine ss_cons (s_exprC (cp_callI GN i (hr.mono (by decide)) (ca_v (cv_var 0 rfl) (ca_v (cv_var 1 rfl) ca_nil)) (fun vs H1 s1 e => ⟨_, _, e, hg.m s1, hw.m s1, wf, ok⟩)) fun H1 s1 => ?_)
    exact ss_one (s_ret (CP.imp (cp_callI GP i hr (ca_v (cv_var 0 rfl) (ca_v (cv_var 1 rfl) ca_nil)) (fun vs H2 s2 e => ⟨_, _, e, (hg.m s1).m s2, (hw.m s1).m s2, wf, ok⟩)) fun z H2 _ e => e) fun z H2 s2 e => k z H2 (s1.trans s2) e)
end
end Pz
end
section
set_option Elab.async false
set_option linter.all false
set_option maxRecDepth 100000
set_option maxHeartbeats 4000000
namespace Pz
open PySem PySem.Spec PyProof.Rows L2
section
variable {X : Cx} {o i e f a b c tg it : Expr} {es : List Expr} {body : List Stmt} {σ : L2.St} {H : Hp} {P Pi Pa Pb : V → Hp → Prop} {D : Ends} {d l : Addr} {xs : List V} {pos p apos cpos tpos spos p2 : Pos}
/-- x in a lot told by Z -/
theorem cv_inEx {x : Nat} (ha : CV X a σ H (.int (x : Int))) (hb : CP X b σ H (fun v H1 => ∃ l, x ∈ l ∧ IsL H1 l v)) (hm : behindInMarks .In b = false := by rfl) : CV X (.Compare a [.In] [b] pos) σ H (.bl true) :=
  cp_cmp op_in_seq ha hb (mon_eq _) hm fun u v H1 s1 e1 ⟨l, hx, t, e2, h2⟩ Q k => by
    subst e1 e2
    refine ⟨t, _, rfl, .inr (SqT.of h2), rfl, flat_nv l, ?_⟩
    rw [if_neg (by decide), inV_nv, decide_eq_true hx]
    exact k _ H1 (Same.refl _) rfl
/-- max(a, b) -/
theorem cv_max2 {x y : Int} (hmx : X.mg "max" = none) (ha : CV X a σ H (.int x)) (hb : CV X b σ H (.int y)) (hc : X.calm = true := by rfl) (hg : Gl X "max" := by rfl) (h1 : starEach (a :: [b]) X.env = (false, eval a X.env) :: starEach [b] X.env := by rfl) (h2 : starEach (b :: []) X.env = (false, eval b X.env) :: starEach [] X.env := by rfl) (hpl : (backTo pos (starEach [b] X.env)).any (·.1) = false := by rfl) :
    CV X (.Call (.Name "max" p) [a, b] [] pos) σ H (.int (max x y)) :=
  cp_callB (call_max2 hc) hg hmx (by decide +kernel) (ca_v ha (ca_v hb ca_nil h2) h1) (fun vs H1 sH e Q k => by
    subst e
    refine ⟨x, y, rfl, k _ H1 (Same.refl _) ?_⟩
    congr 1
    by_cases h : x < y
    · rw [if_pos h, Int.max_eq_right (Int.le_of_lt h)]
    · rw [if_neg h, Int.max_eq_left (by omega)]) (he := h1) (hpl := hpl)
/-- a[:2] -/
theorem cp_slice2 {u v : V} {r : List V} {kk : Nat} {kp : Pos} (ha : CP X a σ H (fun z H1 => ∃ T, z = .ref T ∧ H1 T = some (.tup (u :: v :: r)))) (hr : r ≠ []) : CP X (.Subscript a (.Slice none (some (.Constant (.int 2) kk kp)) none p2) pos) σ H (fun z H1 => ∃ T, z = .ref T ∧ H1 T = some (.tup [u, v])) := fun H1 s1 Q q =>
  ⟨_, pe_slice sl_tup re_pe po_none (po_some re_pe), ha H1 s1 _ fun z H2 s2 ⟨T, ez, hT⟩ => (cv_int : CV X (.Constant (.int 2) kk kp) σ H2 (.int 2)) H2 (Same.refl _) _ fun w H3 s3 ew => by
    subst ez ew
    refine ⟨2, rfl, T, u :: v :: r, rfl, SqT.of (s3 _ _ hT), ?_, fun q' hq' => q _ _ ((s2.trans s3).trans (same_new hq')) ⟨q', rfl, ?_⟩⟩
    · have hl : 0 < r.length := List.length_pos_iff.mpr hr
      rintro ⟨_, h2⟩
      have e : HT.sIx (u :: v :: r).length (u :: v :: r).length (some ((2 : Nat) : Int)) = min 2 (u :: v :: r).length := HT.sIx_nat _ _ _
      have h2 : HT.sIx (u :: v :: r).length (u :: v :: r).length (some ((2 : Nat) : Int)) = (u :: v :: r).length := h2
      rw [e] at h2
      simp only [List.length_cons] at h2
      omega
    · have e : HT.sIx (u :: v :: r).length (u :: v :: r).length (some ((2 : Nat) : Int)) = min 2 (u :: v :: r).length := HT.sIx_nat _ _ _
      have e' : HT.sIx (u :: v :: r).length (u :: v :: r).length (some (2 : Int)) = 2 := by
        have e2 : HT.sIx (u :: v :: r).length (u :: v :: r).length (some (2 : Int)) = min 2 (u :: v :: r).length := e
        rw [e2]
        simp only [List.length_cons]
        omega
      have ec : cutV (u :: v :: r) none (some 2) = [u, v] := by
        unfold cutV
        rw [e', HT.sIx_none]
        rfl
      rw [upd_same, ec]⟩
/-- a < b of tuples of ints -/
theorem ct_ltT {ns ms : List Int} (hu : X.A.units < cLine) (ha : CP X a σ H (fun z H1 => ∃ T, z = .ref T ∧ H1 T = some (.tup (iv ns)))) (hb : CP X b σ H (fun z H1 => ∃ T, z = .ref T ∧ H1 T = some (.tup (iv ms)))) : CP X (.Compare a [.Lt] [b] pos) σ H (fun u _ => u = .bl (HT.lexLt ns ms)) :=
  cp_cmp (op_ltT hu) ha hb (fun z H1 H2 s ⟨T, e, h⟩ => ⟨T, e, s _ _ h⟩) (nomark _) fun x y H1 s1 ⟨T, e1, h1⟩ ⟨T2, e2, h2⟩ Q k => ⟨T, T2, ns, ms, e1, e2, SqT.of h1, SqT.of h2, k _ H1 (Same.refl _) rfl⟩
/-- for over a value at l, a tuple or a list that stays -/
theorem s_forV {δ : Type} {R : Rel δ} {ds : List δ} (he : CV X it σ H (.ref l)) (hv : H l = some (.tup xs) ∨ H l = some (.lst xs)) (pr : Paired (R H) ds xs) (rt : RT1 R) (Pv : Hp → Nat → L2.St → Hp → Prop) (h0 : ∀ H2, Same H H2 → Pv H2 0 σ H2)
    (hK : ∀ H2 i σ' H', Same H H2 → Pv H2 i σ' H' → TS H2 H' ∧ (H l = some (.lst xs) → H' l = some (.lst xs)))
    (turn : ∀ H2 i d x σ' H3 H', Same H H2 → ds[i]? = some d → Pv H2 i σ' H3 → Same H3 H' → R H' d x → RG X tg x σ' H' fun σ3 H4 => RSs X body { D with nx := Pv H2 (i + 1), ct := Pv H2 (i + 1), bk := D.nx } σ3 H4)
    (hd : ∀ H2 σ' H', Same H H2 → Pv H2 ds.length σ' H' → D.nx σ' H') (hp : PassesOwn (model X.prog X.w) X.A X.env X.xe := by exact PassesOwn.never) (hc : X.calm = true := by rfl)
    (hs : ∀ x, foldedSetIterable it X.env x = pure x := by intro _; rfl) : RS X (.For tg it body [] pos) D σ H := by
  rcases hv with hv | hv
  · exact s_for (Kp := TS) (ds := ds) (R := R) (ci_tup (CP.imp he fun v H1 s1 e => ⟨l, xs, e, s1 _ _ hv, paired_rm rt.m s1 pr⟩) rt) Pv h0 (fun H2 i σ' H' s2 _ p => (hK H2 i σ' H' s2 p).1) turn hd hp hc hs
  · exact ⟨_, ps_for hp hc (pi_list re_pe) rg_pg rss_pss hs, he H (Same.refl H) _ fun v H2 s2 ev => by
      subst ev
      refine ⟨l, rfl, ⟨xs, SqL.of (s2 _ _ hv)⟩, for_it (walk_list (xs := xs)) (Pv H2) (h0 H2 s2) (fun i σ' H' hi p => SqL.of ((hK H2 i σ' H' s2 p).2 hv)) (fun i x σ' H3 H' hi p ⟨e2, e3⟩ => ?_) fun σ' H' p => hd H2 σ' H' s2 (by rw [paired_len pr]; exact p)⟩
      subst e2
      obtain ⟨d, q1, q2⟩ := paired_getR pr e3
      exact turn H2 i d x σ' _ _ s2 q1 p (Same.refl _) (rt _ _ _ _ (TS.trans (Pz.Same.ts s2) (hK H2 i σ' _ s2 p).1) q2)⟩
end
end Pz
end
section
set_option Elab.async false
set_option linter.all false
set_option maxRecDepth 100000
set_option maxHeartbeats 4000000
namespace Pt
def sumsOf (k : Pr → Nat) (n : Nat) (es : List Ent) : List Int := (List.range n).map fun b => osum (fun p => decide (k p = b)) es
theorem sums_len (k : Pr → Nat) (n : Nat) (es : List Ent) : (sumsOf k n es).length = n := by unfold sumsOf; rw [List.length_map, List.length_range]
theorem sums_get {k : Pr → Nat} {n : Nat} {es : List Ent} {b : Nat} (h : b < n) : (sumsOf k n es)[b]? = some (osum (fun p => decide (k p = b)) es) := by
  unfold sumsOf
  rw [List.getElem?_map, List.getElem?_range h]
  rfl
theorem sums_nil (k : Pr → Nat) (n : Nat) : sumsOf k n [] = List.replicate n 0 := by
  apply List.ext_getElem?
  intro i
  rcases Nat.lt_or_ge i n with z | z
  · rw [sums_get z, osum_nil, List.getElem?_replicate, if_pos z]
  · rw [List.getElem?_eq_none (by rw [sums_len]; exact z), List.getElem?_eq_none (by rw [List.length_replicate]; exact z)]
theorem sums_snoc {k : Pr → Nat} {n : Nat} {es : List Ent} {e : Ent} (h : k e.1 < n) : (sumsOf k n es).set (k e.1) ((sumsOf k n es).getD (k e.1) 0 + e.2) = sumsOf k n (es ++ [e]) := by
  apply List.ext_getElem?
  intro i
  rcases Nat.lt_or_ge i n with z | z
  · rw [sums_get z, List.getElem?_set, osum_snoc]
    by_cases hi : k e.1 = i
    · subst hi
      rw [if_pos rfl, if_pos (by rw [sums_len]; exact h), List.getD, sums_get h]
      simp
    · rw [if_neg hi, sums_get z]
      simp [hi]
  · rw [List.getElem?_eq_none (by rw [List.length_set, sums_len]; exact z), List.getElem?_eq_none (by rw [sums_len]; exact z)]
end Pt
namespace Pz
open PySem PySem.Spec PyProof.Rows L2
section
variable {P : Program} {w : World} {K : PySem.W.Frag} {mg : Str → Option Value} {base : Heap}
/-! ### is_payment -/
def aIsPay (C : Addr) (i : List (List Nat) × List Int × Pt.Ent) (vs : List V) (H : Hp) : Prop := ∃ v u x, vs = [v, u, x] ∧ IsG C H i.1 v ∧ IsW H i.2.1 u ∧ RPay H i.2.2 x ∧ WfG i.1 ∧ WOk i.1.length i.2.1 ∧ 0 < i.2.2.2 ∧ 0 < Pt.wg i.2.1 i.2.2.1.1 ∧ Pt.wg i.2.1 i.2.2.1.2 < 0 ∧ Pt.Needs i.1 i.2.2.1.1 i.2.2.1.2
abbrev PIsPay (P : Program) (w : World) (K : PySem.W.Frag) (mg : Str → Option Value) (base : Heap) : Prop := Pm P w K mg base "is_payment" 4 ["ground", "worths", "value"] (SpI (aIsPay (CG K)) rTrue)
theorem sc_is_payment : FnScope ["ground", "worths", "value"] ["ground", "worths", "value"] (defScope s_is_payment) := ⟨rfl, rfl, rfl, by decide +kernel, rfl, by decide +kernel, by decide +kernel⟩
theorem ok_is_payment (T : Tx K mg) (GB : PBlock P w K mg base) (GC : PCovers P w K mg base) (D : Df K mg "is_payment" s_is_payment) : PIsPay P w K mg base := by
  refine D.pm sc_is_payment (fun _ _ _ _ _ _ us hl => match us, hl with | [_, _, _], _ => rfl) (fun vs H Q E h => ?_) (fun f cdv A outer s H vs Q E hr h => ?_)
  · obtain ⟨i, ⟨v, u, x, rfl, _⟩, _⟩ := h; rfl
  · obtain ⟨⟨t, wt, en⟩, ⟨v, u, x, rfl, hg, hw, hx, wf, ok, h1, h2, h3, h4⟩, k⟩ := h
    have ok : WOk t.length wt := ok
    have wf : WfG t := wf
    have hg : IsG (CG K) H t v := hg
    have hw : IsW H wt u := hw
    have h2 : 0 < Pt.wg wt en.1.1 := h2
    have h3 : Pt.wg wt en.1.2 < 0 := h3
    have h4 : Pt.Needs t en.1.1 en.1.2 := h4
    have h1 : 0 < en.2 := h1
    have h10 := wf.le
    have ha : en.1.1 < t.length := Pt.lt_of_worth ok.len (b := en.1.1) (by omega)
    have hb : en.1.2 < t.length := Pt.lt_of_worth ok.len (b := en.1.2) (by omega)
    obtain ⟨Tq, ex, hT⟩ := hx
    have hT : H Tq = some (.tup [.int (en.1.1 : Int), .int (en.1.2 : Int), .int en.2]) := hT
    subst ex
    refine ss_cons (s_guard (CT.to (CW.ct (cw_or (k := false) (l := false) (ct_not (k := true) (ct_val (cv_isiTy (u := "tuple") T.isi T.tuple (by decide +kernel) (cv_var 2 rfl) (mon_eq _) (fun v H1 s1 e => by subst e; exact tyx_tup (s1 _ _ hT)) (kit_ty (by decide +kernel))))) fun _ =>
      cw_or (k := false) (l := false) (CT.to (ct_ne (x := .int (3 : Int)) (y := .int 3) (cv_len (n := 3) T.len (cv_var 2 rfl) fun z H2 s2 e => by subst e; exact ⟨Tq, _, rfl, .inr (s2 _ _ hT), rfl⟩) cv_int rfl) (by simp)) fun _ =>
      cw_or1 (ct_not (k := true) (ct_val (CP.imp (cp_callI GB (t, en.1.1) hr (ca_v (cv_var 0 rfl) (ca_v (v := .int (en.1.1 : Int)) (cv_ixRaw (xs := [.int (en.1.1 : Int), .int (en.1.2 : Int), .int en.2]) ((cv_var 2 rfl).imp fun z H2 s2 e => ⟨Tq, e, s2 _ _ hT⟩) cv_int rfl) ca_nil)) fun vs H1 s1 e => ⟨v, e, hg.m s1, (show t.length < 1000 by omega), ha⟩) fun z H2 _ e => e))))) rfl) fun H1 s1 => ?_)
    refine ss_cons (s_guard (CT.to (CW.ct (cw_or (k := false) (l := false) (ct_not (k := true) (ct_val (CP.imp (cp_callI GB (t, en.1.2) hr (ca_v (cv_var 0 rfl) (ca_v (v := .int (en.1.2 : Int)) (cv_ixRaw (xs := [.int (en.1.1 : Int), .int (en.1.2 : Int), .int en.2]) ((cv_var 2 rfl).imp fun z H2 s2 e => ⟨Tq, e, s2 _ _ (s1 _ _ hT)⟩) cv_int rfl) ca_nil)) fun vs H2 s2 e => ⟨v, e, (hg.m s1).m s2, (show t.length < 1000 by omega), hb⟩) fun z H2 _ e => e))) fun _ =>
      cw_or (k := false) (l := false) (ct_not (k := true) (ct_val (cv_isiTy (u := "int") T.isi T.int (by decide +kernel) (cv_ixRaw (xs := [.int (en.1.1 : Int), .int (en.1.2 : Int), .int en.2]) (y := .int en.2) ((cv_var 2 rfl).imp fun z H2 s2 e => ⟨Tq, e, s2 _ _ (s1 _ _ hT)⟩) cv_int rfl) (mon_eq _) (fun v H1 _ e => by subst e; exact tyx_int) (kit_ty (by decide +kernel))))) fun _ =>
      cw_or (k := false) (l := false) (ct_val (cv_isiTy (u := "bool") (b := false) T.isi T.bool (by decide +kernel) (cv_ixRaw (xs := [.int (en.1.1 : Int), .int (en.1.2 : Int), .int en.2]) (y := .int en.2) ((cv_var 2 rfl).imp fun z H2 s2 e => ⟨Tq, e, s2 _ _ (s1 _ _ hT)⟩) cv_int rfl) (mon_eq _) (fun v H1 _ e => by subst e; exact tyx_int) (kit_ty (by decide +kernel)))) fun _ =>
      cw_or1 (CT.to (ct_lt (cv_ixRaw (xs := [.int (en.1.1 : Int), .int (en.1.2 : Int), .int en.2]) ((cv_var 2 rfl).imp fun z H2 s2 e => ⟨Tq, e, s2 _ _ (s1 _ _ hT)⟩) cv_int rfl) cv_int) (decide_eq_false (by omega))))) rfl) fun H2 s2 => ?_)
    have s12 := s1.trans s2
    refine ss_one (s_ret (P := fun z _ => z = .bl true) (CP.imp (cv_and (k := true) (l := true) (CP.imp (cv_chain (f := fun i j => decide (j < i)) (g := fun i j => decide (j < i)) (i := Pt.wg wt en.1.1) (j := 0) (l := Pt.wg wt en.1.2) op_gt op_gt
      (CP.imp (cp_ixT (R := RInt) (i := (en.1.1 : Int)) ((cv_var 1 rfl).imp fun z H3 s3 e => by subst e; exact isW_tup.mp ((hw.m s12).m s3)) (cv_ixRaw (xs := [.int (en.1.1 : Int), .int (en.1.2 : Int), .int en.2]) ((cv_var 2 rfl).imp fun z H3 s3 e => ⟨Tq, e, s3 _ _ (s12 _ _ hT)⟩) cv_int rfl) (atW (by rw [ok.len]; exact ha)) rt_int.m) fun z H3 _ e => e) cv_int
      (CP.imp (cp_ixT (R := RInt) (i := (en.1.2 : Int)) ((cv_var 1 rfl).imp fun z H3 s3 e => by subst e; exact isW_tup.mp ((hw.m s12).m s3)) (cv_ixRaw (xs := [.int (en.1.1 : Int), .int (en.1.2 : Int), .int en.2]) ((cv_var 2 rfl).imp fun z H3 s3 e => ⟨Tq, e, s3 _ _ (s12 _ _ hT)⟩) cv_int rfl) (atW (by rw [ok.len]; exact hb)) rt_int.m) fun z H3 _ e => e)) fun z H3 _ e => e.trans (by rw [decide_eq_true h2, decide_eq_true h3]; rfl)) fun _ =>
      cv_one (cv_inEx (x := en.1.2) (cv_ixRaw (xs := [.int (en.1.1 : Int), .int (en.1.2 : Int), .int en.2]) ((cv_var 2 rfl).imp fun z H3 s3 e => ⟨Tq, e, s3 _ _ (s12 _ _ hT)⟩) cv_int rfl)
        (cp_ixEx (R := IsL) (Z := fun cs => Pt.Told t cs) (Z' := fun l => en.1.2 ∈ l) (i := (en.1.1 : Int)) (CP.imp (cp_callI GC t (hr.mono (by decide)) (ca_v (cv_var 0 rfl) ca_nil) fun vs H3 s3 e => ⟨v, e, (hg.m s12).m s3, wf⟩) fun z H3 _ ⟨cs, g1, _, g3⟩ => ⟨cs, g1, g3⟩) (cv_ixRaw (xs := [.int (en.1.1 : Int), .int (en.1.2 : Int), .int en.2]) ((cv_var 2 rfl).imp fun z H3 s3 e => ⟨Tq, e, s3 _ _ (s12 _ _ hT)⟩) cv_int rfl)
          (fun cs hc => ⟨cs.getD en.1.1 [], at_getD (by rw [hc.len]; exact ha), (hc.mem _ ha _).mpr h4⟩) rt_l.m))) fun z H3 _ e => e) fun z H3 s3 e => k z H3 (s12.trans s3) e)
end
end Pz
end
section
set_option Elab.async false
set_option linter.all false
set_option maxRecDepth 100000
set_option maxHeartbeats 4000000
namespace Pz
open PySem PySem.Spec PyProof.Rows L2
theorem ca_two {X : Cx} {a b : Expr} {σ : L2.St} {H : Hp} {Pa : V → Hp → Prop} {Pb : V → V → Hp → Prop} (ha : CP X a σ H Pa) (ma : Mon Pa) (hb : ∀ v H1, Same H H1 → Pa v H1 → CP X b σ H1 (Pb v)) (h1 : starEach (a :: [b]) X.env = (false, eval a X.env) :: starEach [b] X.env := by rfl) (h2 : Sg X b := by rfl) :
    CA X [a, b] σ H (fun vs H2 => ∃ x y, vs = [x, y] ∧ Pa x H2 ∧ Pb x y H2) := fun H1 s1 Q q =>
  ⟨_, pa_cons re_pe (pa_cons re_pe pa_nil h2) h1, ha H1 s1 _ fun x H2 s2 px => hb x H2 (s1.trans s2) px H2 (Same.refl _) _ fun y H3 s3 py => q _ H3 (s2.trans s3) ⟨x, y, rfl, ma _ _ _ s3 px, py⟩⟩
theorem atI_iv {l : List Int} {n : Nat} (h : n < l.length) : atI (iv l) (n : Int) = some (.int (l.getD n 0)) := atI_nat (by rw [List.getElem?_map, List.getD, List.getElem?_eq_getElem h]; rfl)
theorem ixN_iv {l : List Int} {n : Nat} (h : n < l.length) : ixN (iv l).length (n : Int) = some n := by
  unfold ixN
  rw [List.length_map, if_pos (by omega), if_pos (by omega)]
  rfl
theorem iv_set (l : List Int) (n : Nat) (v : Int) : (iv l).set n (.int v) = iv (l.set n v) := by unfold iv; rw [List.map_set]
section
variable {P : Program} {w : World} {K : PySem.W.Frag} {mg : Str → Option Value} {base : Heap}
/-! ### sums_of -/
def Val (es : List Pt.Ent) (x : V) (H : Hp) : Prop := ∃ a xs, x = .ref a ∧ (H a = some (.tup xs) ∨ H a = some (.lst xs)) ∧ Paired (RPay H) es xs
theorem Val.m {es : List Pt.Ent} {x : V} {H H' : Hp} (s : Same H H') (h : Val es x H) : Val es x H' := let ⟨a, xs, e, h1, h2⟩ := h; ⟨a, xs, e, h1.imp (s _ _) (s _ _), paired_rm rt_pay.m s h2⟩
def aSums (C : Addr) (i : List (List Nat) × List Pt.Ent) (vs : List V) (H : Hp) : Prop := ∃ v x, vs = [v, x] ∧ IsG C H i.1 v ∧ Val i.2 x H ∧ i.1.length ≤ 10 ∧ ∀ e ∈ i.2, e.1.1 < i.1.length ∧ e.1.2 < i.1.length
def ZSums (i : List (List Nat) × List Pt.Ent) (xs : List V) (H : Hp) : Prop := ∃ x y, xs = [x, y] ∧ IsLst RInt H (Pt.sumsOf (·.1) i.1.length i.2) x ∧ IsLst RInt H (Pt.sumsOf (·.2) i.1.length i.2) y
def rSums (i : List (List Nat) × List Pt.Ent) (v : V) (H : Hp) : Prop := ∃ T xs, v = .ref T ∧ H T = some (.tup xs) ∧ ZSums i xs H
theorem zsums_m {i : List (List Nat) × List Pt.Ent} : ∀ xs H1 H2, Same H1 H2 → ZSums i xs H1 → ZSums i xs H2 := fun xs H1 H2 s ⟨x, y, e, h1, h2⟩ => ⟨x, y, e, rm_lst rt_int.m _ _ _ _ s h1, rm_lst rt_int.m _ _ _ _ s h2⟩
abbrev PSums (P : Program) (w : World) (K : PySem.W.Frag) (mg : Str → Option Value) (base : Heap) : Prop := Pm P w K mg base "sums_of" 3 ["ground", "value"] (SpI (aSums (CG K)) rSums)
theorem sc_sums_of : FnScope ["ground", "value", "pays", "gets", "one", "other", "many"] ["ground", "value"] (defScope s_sums_of) := ⟨rfl, rfl, rfl, by decide +kernel, rfl, by decide +kernel, by decide +kernel⟩
theorem ok_sums_of (T : Tx K mg) (GL : LenG P w K mg base (CG K)) (D : Df K mg "sums_of" s_sums_of) : PSums P w K mg base := by
  refine D.pm sc_sums_of (fun _ _ _ _ _ _ us hl => match us, hl with | [_, _], _ => rfl) (fun vs H Q E h => ?_) (fun f cdv A outer s H vs Q E hr h => ?_)
  · obtain ⟨i, ⟨v, x, rfl, _⟩, _⟩ := h; rfl
  · obtain ⟨⟨t, es⟩, ⟨v, x, rfl, hg, hv, h10, hes⟩, k⟩ := h
    have h10 : t.length ≤ 10 := h10
    have hes : ∀ e ∈ es, e.1.1 < t.length ∧ e.1.2 < t.length := hes
    obtain ⟨l, xs, rfl, hl, hpr⟩ := hv
    have one0 : ∀ {X : Cx} {σ : L2.St} {H1 : Hp} {kk : Nat} {pp p2 : Pos} (hs : Sg X (.Constant (.int 0) kk pp)), CP X (.List [.Constant (.int 0) kk pp] p2) σ H1 (fun z H2 => IsLst RInt H2 [0] z) := fun {X σ H1 kk pp p2} hs =>
      CP.imp (cp_lst (A := fun vs _ => vs = [.int 0]) (ca_v cv_int ca_nil hs) (fun _ _ _ _ e => e) (fun vs _ e => by rw [e]; show 1 ≤ 1000; decide)) fun z H2 _ ⟨a, vs, g1, _, g3, g4⟩ => ⟨a, vs, g1, g3, by rw [g4]; exact .cons rfl .nil⟩
    refine ss_cons (s_par 2 3 (ca_two (Pa := fun z H2 => ∃ a, z = .ref a ∧ H a = none ∧ H2 a = some (.lst (iv (List.replicate t.length 0)))) (Pb := fun z z' H2 => ∃ a b, z = .ref a ∧ z' = .ref b ∧ a ≠ b ∧ H b = none ∧ H2 b = some (.lst (iv (List.replicate t.length 0))))
      (CP.imp (cp_repL (R := RInt) (d := (0 : Int)) (n := t.length) rt_int.m (one0 rfl) (cv_lenG GL hr T.len ((cv_var 0 rfl).imp fun u H2 s2 e => by subst e; exact hg.m s2) (by omega)) (by omega)) fun z H1 _ ⟨a, ys, g1, g2, g3, g4⟩ => ⟨a, g1, g2, by rw [g3, paired_int g4]⟩) (fun z H1 H2 s ⟨a, e, h1, h2⟩ => ⟨a, e, h1, s _ _ h2⟩)
      (fun z H1 s1 ⟨a, e, h1, h2⟩ => CP.imp (cp_repL (R := RInt) (d := (0 : Int)) (n := t.length) rt_int.m (one0 rfl) (cv_lenG GL hr T.len ((cv_var 0 rfl).imp fun u H2 s2 e => by subst e; exact (hg.m s1).m s2) (by omega)) (by omega)) fun z' H2 s2 ⟨b, ys, g1, g2, g3, g4⟩ => ⟨a, b, e, g1, (fun z => by rw [z, g2] at h2; cases h2), s1.free g2, by rw [g3, paired_int g4]⟩))
      (fun vs H1 s1 ⟨x1, x2, ev, ⟨a, e1, h1, h2⟩, ⟨a', b, e1', e2, hab, h3, h4⟩⟩ => ⟨x1, x2, ev, ?_⟩) (hN := sc_sums_of.nd))
    subst e1 e2
    injection e1' with e1'
    subst e1'
    show RSs _ _ _ [some v, some (.ref l), some (.ref a), some (.ref b), none, none, none] H1
    have hla : l ≠ a := fun e => by rw [e, h1] at hl; rcases hl with h | h <;> cases h
    have hlb : l ≠ b := fun e => by rw [e, h3] at hl; rcases hl with h | h <;> cases h
    refine ss_cons (s_forV (l := l) (xs := xs) (ds := es) (R := RPay) (cv_var 1 rfl) (hl.imp (s1 _ _) (s1 _ _)) (paired_rm rt_pay.m s1 hpr) rt_pay
      (fun H2 i σ' H' => ∃ o1 o2 o3, σ' = [some v, some (.ref l), some (.ref a), some (.ref b), o1, o2, o3] ∧ Same H H' ∧ TS H2 H' ∧ (H1 l = some (.lst xs) → H' l = some (.lst xs)) ∧ H' a = some (.lst (iv (Pt.sumsOf (·.1) t.length (es.take i)))) ∧ H' b = some (.lst (iv (Pt.sumsOf (·.2) t.length (es.take i)))))
      (fun H2 s2 => ⟨none, none, none, rfl, s1.trans s2, fun _ _ h => h, fun h => s2 _ _ h, by rw [List.take_zero, Pt.sums_nil]; exact s2 _ _ h2, by rw [List.take_zero, Pt.sums_nil]; exact s2 _ _ h4⟩)
      (fun H2 i σ' H' s2 ⟨_, _, _, _, _, g1, g2, _⟩ => ⟨g1, g2⟩)
      (fun H2 i d y σ' H3 H4 s2 hd st s4 r => ?_) (fun H2 σ' H3 s2 st => ?_))
    · obtain ⟨o1, o2, o3, rfl, p1, p2, p3, p4, p5⟩ := st
      obtain ⟨Tq, ey, hT⟩ := r
      have hdt := hes d (List.mem_of_getElem? hd)
      have etake : es.take (i + 1) = es.take i ++ [d] := by rw [List.take_add_one, hd]; rfl
      have hl1 := Pt.sums_len (·.1) t.length (es.take i)
      have hl2 := Pt.sums_len (·.2) t.length (es.take i)
      refine g_trip 4 5 6 ey hT (hN := sc_sums_of.nd) ?_
      show RSs _ _ _ [some v, some (.ref l), some (.ref a), some (.ref b), some (.int (d.1.1 : Int)), some (.int (d.1.2 : Int)), some (.int d.2)] H4
      refine ss_cons (op_arith ip_add (l := a) (k := (d.1.1 : Int)) (j := d.1.1) (cv_var 2 rfl) (s4 _ _ p4) (cv_var 4 rfl) (atI_iv (by omega)) (ixN_iv (by omega)) (cv_var 6 rfl) fun H5 s5 h5 => ?_)
      rw [iv_set, Pt.sums_snoc (k := (·.1)) (e := d) hdt.1, ← etake]
      have hb5 : (L2.upd H5 a (.lst (iv (Pt.sumsOf (·.1) t.length (es.take (i + 1)))))) b = some (.lst (iv (Pt.sumsOf (·.2) t.length (es.take i)))) := by rw [upd_ne (Ne.symm hab)]; exact s5 _ _ (s4 _ _ p5)
      have hS5 : Same H (L2.upd H5 a (.lst (iv (Pt.sumsOf (·.1) t.length (es.take (i + 1)))))) := same_mut ((p1.trans s4).trans s5) h1
      have hT5 : TS H2 (L2.upd H5 a (.lst (iv (Pt.sumsOf (·.1) t.length (es.take (i + 1)))))) := TS.trans (TS.trans p2 (Pz.Same.ts (s4.trans s5))) (ts_upd h5 fun xs e => by cases e)
      have hl5 : H1 l = some (.lst xs) → (L2.upd H5 a (.lst (iv (Pt.sumsOf (·.1) t.length (es.take (i + 1)))))) l = some (.lst xs) := fun h => by rw [upd_ne hla]; exact s5 _ _ (s4 _ _ (p3 h))
      have ha5 : (L2.upd H5 a (.lst (iv (Pt.sumsOf (·.1) t.length (es.take (i + 1)))))) a = some (.lst (iv (Pt.sumsOf (·.1) t.length (es.take (i + 1))))) := upd_same
      generalize L2.upd H5 a (.lst (iv (Pt.sumsOf (·.1) t.length (es.take (i + 1))))) = H6 at hb5 hS5 hT5 hl5 ha5
      refine ss_one (op_arith ip_add (l := b) (k := (d.1.2 : Int)) (j := d.1.2) (cv_var 3 rfl) hb5 (cv_var 5 rfl) (atI_iv (by omega)) (ixN_iv (by omega)) (cv_var 6 rfl) fun H7 s7 h7 => ?_)
      rw [iv_set, Pt.sums_snoc (k := (·.2)) (e := d) hdt.2, ← etake]
      exact ⟨_, _, _, rfl, same_mut (hS5.trans s7) h3, TS.trans (TS.trans hT5 (Pz.Same.ts s7)) (ts_upd h7 fun xs e => by cases e), fun h => by rw [upd_ne hlb]; exact s7 _ _ (hl5 h), by rw [upd_ne hab]; exact s7 _ _ ha5, upd_same⟩
    · obtain ⟨o1, o2, o3, rfl, p1, p2, p3, p4, p5⟩ := st
      rw [List.take_length] at p4 p5
      exact ss_one (s_ret (cp_tup (ca_v (cv_var 2 rfl) (ca_v (cv_var 3 rfl) ca_nil)) (fun _ _ _ _ e => e) (fun vs _ e => by rw [e]; show 2 ≤ 1000; decide)) fun z H4 s4 ⟨Tq, vs, g1, g2, g3⟩ => k z H4 (p1.trans s4) ⟨Tq, _, g1, by rw [g2, g3], _, _, rfl, isLst_iv (s4 _ _ p4), isLst_iv (s4 _ _ p5)⟩)
end
end Pz
end
section
set_option Elab.async false
set_option linter.all false
set_option maxRecDepth 100000
set_option maxHeartbeats 4000000
namespace Pz
open PySem PySem.Spec PyProof.Rows L2
theorem good_lt {t : List (List Nat)} {wt : List Int} {es : List Pt.Ent} (g : Pt.GoodPay t wt es) (hw : wt.length = t.length) : ∀ e ∈ es, e.1.1 < t.length ∧ e.1.2 < t.length := fun e he => by
  have h := g.ok e he
  exact ⟨Pt.lt_of_worth hw (b := e.1.1) (by omega), Pt.lt_of_worth hw (b := e.1.2) (by omega)⟩
theorem pay_raw {H : Hp} {e : Pt.Ent} {x : V} (h : RPay H e x) : ∃ T, x = .ref T ∧ H T = some (.tup [.int (e.1.1 : Int), .int (e.1.2 : Int), .int e.2]) := h
section
variable {P : Program} {w : World} {K : PySem.W.Frag} {mg : Str → Option Value} {base : Heap}
/-! ### are_all -/
def aAll (C : Addr) (i : List (List Nat) × List Int × List Pt.Ent) (vs : List V) (H : Hp) : Prop := ∃ v u x, vs = [v, u, x] ∧ IsG C H i.1 v ∧ IsW H i.2.1 u ∧ IsTup RPay H i.2.2 x ∧ WfG i.1 ∧ WOk i.1.length i.2.1 ∧ i.2.2.length ≤ 100 ∧ Pt.GoodPay i.1 i.2.1 i.2.2
abbrev PAll (P : Program) (w : World) (K : PySem.W.Frag) (mg : Str → Option Value) (base : Heap) : Prop := Pm P w K mg base "are_all" 5 ["ground", "worths", "value"] (SpI (aAll (CG K)) rTrue)
theorem sc_are_all : FnScope ["ground", "worths", "value", "pays", "gets", "one", "at", "worth"] ["ground", "worths", "value"] (defScope s_are_all) := ⟨rfl, rfl, rfl, by decide +kernel, rfl, by decide +kernel, by decide +kernel⟩
theorem ok_are_all (T : Tx K mg) (GP : PIsPay P w K mg base) (GS : PSums P w K mg base) (D : Df K mg "are_all" s_are_all) : PAll P w K mg base := by
  refine D.pm sc_are_all (fun _ _ _ _ _ _ us hl => match us, hl with | [_, _, _], _ => rfl) (fun vs H Q E h => ?_) (fun f cdv A outer s H vs Q E hr h => ?_)
  · obtain ⟨i, ⟨v, u, x, rfl, _⟩, _⟩ := h; rfl
  · obtain ⟨⟨t, wt, es⟩, ⟨v, u, x, rfl, hg, hw, hx, wf, ok, hz, gp⟩, k⟩ := h
    have ok : WOk t.length wt := ok
    have wf : WfG t := wf
    have hg : IsG (CG K) H t v := hg
    have hw : IsW H wt u := hw
    have hx : IsTup RPay H es x := hx
    have hz : es.length ≤ 100 := hz
    have gp : Pt.GoodPay t wt es := gp
    have h10 := wf.le
    have hlt := good_lt gp ok.len
    have hu : (A.deeper (envOfC "are_all" (defScope s_are_all) s.heap.objs.size f cdv)).units < cLine := by have := hr.un; omega
    have hxm : ∀ {H1 : Hp}, Same H H1 → IsTup RPay H1 es x := fun s1 => let ⟨a, xs, e, h1, h2⟩ := hx; ⟨a, xs, e, s1 _ _ h1, paired_rm rt_pay.m s1 h2⟩
    refine ss_cons (s_guard (CT.to (CW.ct (cw_or (k := false) (l := false) (ct_not (k := true) (ct_val (cv_isiTy (u := "tuple") T.isi T.tuple (by decide +kernel) ((cv_var 2 rfl).imp fun z H1 s1 e => (show IsTup RPay H1 es z by subst e; exact hxm s1)) (fun z H1 H2 s ⟨a, xs, e, h1, h2⟩ => ⟨a, xs, e, s _ _ h1, paired_rm rt_pay.m s h2⟩) (fun z H1 _ ⟨a, xs, e, h1, _⟩ => by subst e; exact tyx_tup h1) (kit_ty (by decide +kernel))))) fun _ =>
      cw_or1 (ct_not (k := true) (ct_val (CP.imp (cv_allOver [("one", 5)] (j := 5) (ds := es) (fun _ : Pt.Ent => true) T.all (ci_tup ((cv_var 2 rfl).imp fun z H1 s1 e => by subst e; exact hxm s1) rt_pay) (fun _ _ s => Same.ts s) (by omega) ?_ sc_are_all.nd
        (blkOk_by (own := [("one", 5)]) (N := ["ground", "worths", "value", "pays", "gets", "one", "at", "worth"]) (sc := defScope s_are_all) (by decide +kernel)) (fun _ _ _ _ _ => pg_name (i := 5) sc_are_all.nd rfl (Or.inl rfl)) (fun _ => rfl)) fun z H1 _ e => e.trans (by rw [List.all_eq_true.mpr fun _ _ => rfl])))))) rfl) fun H1 s1 => ?_)
    · intro s0 H0 C cl fp d y H' hd s2 hy
      have hgo := gp.ok d hd
      exact CP.imp (cp_callI GP (t, wt, d) hr (ca_v (cv_var 0 rfl) (ca_v (cv_var 1 rfl) (ca_v (cv_var 5 rfl) ca_nil))) fun vs H2 s3 e => ⟨_, _, _, e, (hg.m s2).m s3, (hw.m s2).m s3, rt_pay.m _ _ _ _ s3 hy, wf, ok, hgo.1, hgo.2.1, hgo.2.2.1, hgo.2.2.2⟩) fun z H2 _ e => e
    refine ss_cons (s_guard (ct_not (k := true) (ct_val (CP.imp (cv_allOver [("at", 6)] (j := 6) (fun _ : Int => true) T.all (ci_range2 (lo := 1) (hi := (es.length : Int)) rfl T.range cv_int (cv_len T.len (cv_var 2 rfl) (fun z H2 s2 e => by subst e; exact (hxm (s1.trans s2)).sized)) ⟨by omega, by omega, by omega, by omega⟩) (fun _ _ _ => trivial) (by rw [List.length_map, List.length_range]; omega) ?_ sc_are_all.nd
        (blkOk_by (own := [("at", 6)]) (N := ["ground", "worths", "value", "pays", "gets", "one", "at", "worth"]) (sc := defScope s_are_all) (by decide +kernel)) (fun _ _ _ _ _ => pg_name (i := 6) sc_are_all.nd rfl (Or.inl rfl)) (fun _ => rfl)) fun z H2 _ e => e.trans (by rw [List.all_eq_true.mpr fun _ _ => rfl])))) fun H2 s2 => ?_)
    · intro s0 H0 C cl fp d y H' hd s3 hy
      have hy : y = .int d := hy
      subst hy
      obtain ⟨n, hn, rfl⟩ := List.mem_map.mp hd
      rw [List.mem_range] at hn
      have h1 : n < es.length := by omega
      have h2 : n + 1 < es.length := by omega
      have ha := List.pairwise_iff_getElem.mp gp.asc n (n + 1) h1 h2 (by omega)
      refine CP.imp (ct_ltT (ns := [(es[n].1.1 : Int), (es[n].1.2 : Int)]) (ms := [(es[n + 1].1.1 : Int), (es[n + 1].1.2 : Int)]) hu
        (cp_slice2 (u := .int (es[n].1.1 : Int)) (v := .int (es[n].1.2 : Int)) (r := [.int es[n].2]) (cp_ixT (R := RPay) (ds := es) (d := es[n]) (i := 1 + (n : Int) - 1) ((cv_var 2 rfl).imp fun z H3 s4 e => by subst e; exact hxm ((s1.trans s3).trans s4)) (cv_sub (cv_var 6 rfl) cv_int) (by rw [show (1 : Int) + (n : Int) - 1 = (n : Int) by omega]; exact atI_nat (List.getElem?_eq_getElem h1)) rt_pay.m) (by simp))
        (cp_slice2 (u := .int (es[n + 1].1.1 : Int)) (v := .int (es[n + 1].1.2 : Int)) (r := [.int es[n + 1].2]) (cp_ixT (R := RPay) (ds := es) (d := es[n + 1]) (i := 1 + (n : Int)) ((cv_var 2 rfl).imp fun z H3 s4 e => by subst e; exact hxm ((s1.trans s3).trans s4)) (cv_var 6 rfl) (by rw [show (1 : Int) + (n : Int) = ((n + 1 : Nat) : Int) by omega]; exact atI_nat (List.getElem?_eq_getElem h2)) rt_pay.m) (by simp))) fun z H3 _ e => e.trans ?_
      congr 1
      rw [HT.lexLt_cons, HT.lexLt_cons]
      rcases ha with ha | ⟨ha, hb⟩
      · rw [if_neg (by omega), decide_eq_true (by omega)]
      · rw [if_pos (by omega), if_neg (by omega), decide_eq_true (by omega)]
    have s12 := s1.trans s2
    refine ss_cons (s_asg (P := fun z H3 => rSums (t, es) z H3) (CP.imp (cp_callI GS (t, es) (hr.mono (by decide)) (ca_v (cv_var 0 rfl) (ca_v (cv_var 2 rfl) ca_nil)) fun vs H3 s3 e => ⟨_, _, e, (hg.m s12).m s3, (let ⟨a, xs, e, h1, h2⟩ := hxm (s12.trans s3); ⟨a, xs, e, .inl h1, h2⟩), h10, hlt⟩) fun z H3 _ e => e) fun z H3 s3 ⟨Tq, xs, ez, hT, x1, x2, exs, hp1, hp2⟩ => g_pair 3 4 (x := x1) (y := x2) ez (by rw [hT, exs]) (hN := sc_are_all.nd) ?_)
    have s123 := s12.trans s3
    refine ss_one (s_ret (P := fun z _ => z = .bl true) (CP.imp (cv_all (bs := ((enm wt).filter fun _ => true).map fun _ => true) T.all (lc_new (cp_lc2 (δ := Unit) [("at", 6), ("worth", 7)] (i := 6) (j := 7) (ds := enm wt) (fun _ : Nat × Int => true) (fun _ : Nat × Int => true) RBl
      (ci_enumT T.enum ((cv_var 1 rfl).imp fun z H4 s4 e => by subst e; exact isW_tup.mp (hw.m (s123.trans s4))) rt_int) (fun _ _ s => Same.ts s) rt_bl (by rw [enm_len, ok.len]; omega) ?_ rfl sc_are_all.nd
      (blkOk_by (own := [("at", 6), ("worth", 7)]) (N := ["ground", "worths", "value", "pays", "gets", "one", "at", "worth"]) (sc := defScope s_are_all) (by decide +kernel))
      (fun _ _ _ _ _ => pg_tup rfl (pgs_cons (pg_name (i := 6) sc_are_all.nd rfl (Or.inl rfl)) (pgs_cons (pg_name (i := 7) sc_are_all.nd rfl (Or.inl rfl)) pgs_nil))) (fun _ _ => rfl)))) fun z H4 _ e => e.trans (by rw [map_filter_true, all_true])) fun z H4 s4 e => k z H4 (s123.trans s4) e)
    intro s0 H0 C cl fp d y1 y2 H' hd s4 hy1 hy2
    have hy1 : y1 = .int (d.1 : Int) := hy1
    have hy2 : y2 = .int d.2 := hy2
    subst hy1 hy2
    have hdt := enm_mem hd
    have hdl : d.1 < t.length := by
      rcases Nat.lt_or_ge d.1 wt.length with z | z
      · rw [← ok.len]; exact z
      · rw [List.getElem?_eq_none z] at hdt; cases hdt
    have hwg : Pt.wg wt d.1 = d.2 := by show wt.getD d.1 0 = d.2; rw [List.getD, hdt]; rfl
    have h1 : Pt.osum (fun p => decide (p.1 = d.1)) es ≤ max 0 d.2 := by have := gp.pay d.1 hdl; rw [hwg] at this; exact this
    have h2 : Pt.osum (fun p => decide (p.2 = d.1)) es ≤ max 0 (-d.2) := by have := gp.get d.1 hdl; rw [hwg] at this; exact this
    refine ⟨cts_nil, fun _ => CP.imp (cv_and (k := true) (l := true) (CP.imp (cv_le (i := Pt.osum (fun p => decide (p.1 = d.1)) es) (j := max 0 d.2) (CP.imp (cp_ixL (R := RInt) (i := (d.1 : Int)) ((cv_var 3 rfl).imp fun z H5 s5 e => by subst e; exact rm_lst rt_int.m _ _ _ _ (s4.trans s5) hp1) (cv_var 6 rfl) (atI_nat (Pt.sums_get hdl)) rt_int.m) fun z H5 _ e => e) (cv_max2 T.max cv_int (cv_var 7 rfl))) fun z H5 _ e => e.trans (by rw [decide_eq_true h1])) fun _ =>
      cv_one (CP.imp (cv_le (i := Pt.osum (fun p => decide (p.2 = d.1)) es) (j := max 0 (-d.2)) (CP.imp (cp_ixL (R := RInt) (i := (d.1 : Int)) ((cv_var 4 rfl).imp fun z H5 s5 e => by subst e; exact rm_lst rt_int.m _ _ _ _ (s4.trans s5) hp2) (cv_var 6 rfl) (atI_nat (Pt.sums_get hdl)) rt_int.m) fun z H5 _ e => e) (cv_max2 T.max cv_int (cv_neg (cv_var 7 rfl)))) fun z H5 _ e => e.trans (by rw [decide_eq_true h2]))) fun z H5 _ e => e⟩
end
end Pz
end
section
set_option Elab.async false
set_option linter.all false
set_option maxRecDepth 100000
set_option maxHeartbeats 4000000
namespace Pt
theorem osum_filter (f g : Pr → Bool) : ∀ es : List Ent, osum f (es.filter fun e => g e.1) = osum (fun p => f p && g p) es
  | [] => by rw [List.filter_nil, osum_nil, osum_nil]
  | e :: es => by
    rw [osum_cons]
    by_cases h : g e.1 = true
    · rw [List.filter_cons_of_pos (p := fun e : Ent => g e.1) h, osum_cons, osum_filter f g es, h, Bool.and_true]
    · rw [List.filter_cons_of_neg (p := fun e : Ent => g e.1) h, osum_filter f g es]
      have : g e.1 = false := by simpa using h
      rw [this, Bool.and_false]
      simp
end Pt
namespace Pz
open PySem PySem.Spec PyProof.Rows L2
section
variable {P : Program} {w : World} {K : PySem.W.Frag} {mg : Str → Option Value} {base : Heap}
/-! ### proves, shows_best, verdict -/
abbrev GWPE := List (List Nat) × List Int × List Nat × List Pt.Ent
def aPrv (C : Addr) (i : GWPE) (vs : List V) (H : Hp) : Prop := ∃ v u p x, vs = [v, u, p, x] ∧ IsG C H i.1 v ∧ IsW H i.2.1 u ∧ IsL H i.2.2.1 p ∧ IsTup RPay H i.2.2.2 x ∧ WfG i.1 ∧ WOk i.1.length i.2.1 ∧ i.2.2.2.length ≤ 100 ∧ Pt.GoodPay i.1 i.2.1 i.2.2.2 ∧ Pt.Best i.1 i.2.1 i.2.2.1
abbrev PPrv (P : Program) (w : World) (K : PySem.W.Frag) (mg : Str → Option Value) (base : Heap) : Prop := Pm P w K mg base "proves" 6 ["ground", "worths", "pit", "value"] (SpI (aPrv (CG K)) rTrue)
theorem sc_proves : FnScope ["ground", "worths", "pit", "value", "pays", "gets", "at", "worth", "payment"] ["ground", "worths", "pit", "value"] (defScope s_proves) := ⟨rfl, rfl, rfl, by decide +kernel, rfl, by decide +kernel, by decide +kernel⟩
theorem ok_proves (T : Tx K mg) (GA : PAll P w K mg base) (GS : PSums P w K mg base) (D : Df K mg "proves" s_proves) : PPrv P w K mg base := by
  refine D.pm sc_proves (fun _ _ _ _ _ _ us hl => match us, hl with | [_, _, _, _], _ => rfl) (fun vs H Q E h => ?_) (fun f cdv A outer s H vs Q E hr h => ?_)
  · obtain ⟨i, ⟨v, u, p, x, rfl, _⟩, _⟩ := h; rfl
  · obtain ⟨⟨t, wt, pt, es⟩, ⟨v, u, p, x, rfl, hg, hw, hp, hx, wf, ok, hz, gp, hb⟩, k⟩ := h
    have ok : WOk t.length wt := ok
    have wf : WfG t := wf
    have hg : IsG (CG K) H t v := hg
    have hw : IsW H wt u := hw
    have hp : IsL H pt p := hp
    have hx : IsTup RPay H es x := hx
    have hz : es.length ≤ 100 := hz
    have gp : Pt.GoodPay t wt es := gp
    have hb : Pt.Best t wt pt := hb
    have h10 := wf.le
    have hlt := good_lt gp ok.len
    have hxm : ∀ {H1 : Hp}, Same H H1 → IsTup RPay H1 es x := fun s1 => let ⟨a, xs, e, h1, h2⟩ := hx; ⟨a, xs, e, s1 _ _ h1, paired_rm rt_pay.m s1 h2⟩
    refine ss_cons (s_guard (ct_not (k := true) (ct_val (CP.imp (cp_callI GA (t, wt, es) hr (ca_v (cv_var 0 rfl) (ca_v (cv_var 1 rfl) (ca_v (cv_var 3 rfl) ca_nil))) fun vs H1 s1 e => ⟨_, _, _, e, hg.m s1, hw.m s1, hxm s1, wf, ok, hz, gp⟩) fun z H1 _ e => e))) fun H1 s1 => ?_)
    refine ss_cons (s_set 4 (P := fun z H2 => IsLst RInt H2 (Pt.sumsOf (·.1) t.length es) z) (cp_ixRawEx (Z := ZSums (t, es)) (j := 0) (CP.imp (cp_callI GS (t, es) (hr.mono (by decide)) (ca_v (cv_var 0 rfl) (ca_v (cv_var 3 rfl) ca_nil)) fun vs H2 s2 e => ⟨_, _, e, (hg.m s1).m s2, (let ⟨a, xs, e, h1, h2⟩ := hxm (s1.trans s2); ⟨a, xs, e, .inl h1, h2⟩), h10, hlt⟩) fun z H2 _ e => e) cv_int zsums_m (fun xs H2 ⟨x1, x2, e, g1, g2⟩ => ⟨x1, by rw [e]; rfl, g1⟩)) (fun pv H2 s2 hpays => ?_) (hN := sc_proves.nd))
    have s12 := s1.trans s2
    refine ss_cons (s_set 5 (P := fun z H3 => IsLst RInt H3 (Pt.sumsOf (·.2) t.length (es.filter fun e => decide (e.1.1 ∈ pt))) z) (cp_ixRawEx (Z := ZSums (t, es.filter fun e => decide (e.1.1 ∈ pt))) (j := 1) (CP.imp (cp_callI GS (t, es.filter fun e => decide (e.1.1 ∈ pt)) (hr.mono (by decide)) (ca_vx (v := v) (cv_var 0 rfl) (ca_one (P := fun z H3 => Val (es.filter fun e => decide (e.1.1 ∈ pt)) z H3)
      (CP.imp (cp_lc1 [("payment", 8)] (j := 8) (ds := es) (fun e : Pt.Ent => decide (e.1.1 ∈ pt)) (fun e : Pt.Ent => e) RPay (ci_tup ((cv_var 3 rfl).imp fun z H3 s3 e => by subst e; exact hxm (s12.trans s3)) rt_pay) (fun _ _ s => Same.ts s) rt_pay (by omega) ?_ rfl sc_proves.nd
        (blkOk_by (own := [("payment", 8)]) (N := ["ground", "worths", "pit", "value", "pays", "gets", "at", "worth", "payment"]) (sc := defScope s_proves) (by decide +kernel)) (fun _ _ _ _ _ => pg_name (i := 8) sc_proves.nd rfl (Or.inl rfl)) (fun _ => rfl)) fun z H3 _ ⟨a, xs, g1, g2, g3, g4⟩ => ⟨a, xs, g1, .inr g3, by rw [List.map_id'] at g4; exact g4⟩)))
      fun vs H3 s3 ⟨r, e1, y, e2, hv⟩ => ⟨v, y, by rw [e1, e2], (hg.m s12).m s3, hv, h10, fun e he => hlt e (List.mem_filter.mp he).1⟩) fun z H3 _ e => e) cv_int zsums_m (fun xs H3 ⟨x1, x2, e, g1, g2⟩ => ⟨x2, by rw [e]; rfl, g2⟩)) (fun gv H3 s3 hgets => ?_) (hN := sc_proves.nd))
    · intro s0 H0 C cl fp d y H' hd s4 hy
      obtain ⟨Tq, ey, hT⟩ := pay_raw hy
      subst ey
      exact ⟨cts_one (ct_in (x := d.1.1) (l := pt) (cv_ixRaw (xs := [.int (d.1.1 : Int), .int (d.1.2 : Int), .int d.2]) ((cv_var 8 rfl).imp fun z H5 s5 e => ⟨Tq, e, s5 _ _ hT⟩) cv_int rfl) ((cv_var 2 rfl).imp fun z H5 s5 e => by subst e; exact hp.m ((s12.trans s4).trans s5))), fun _ => (cv_var 8 rfl).imp fun z H5 s5 e => by subst e; exact ⟨Tq, rfl, s5 _ _ hT⟩⟩
    have s123 := s12.trans s3
    refine ss_cons (s_for (Kp := TS) (ds := enm wt) (R := RPair RNat RInt) (ci_enumT T.enum ((cv_var 1 rfl).imp fun z H4 s4 e => by subst e; exact isW_tup.mp (hw.m (s123.trans s4))) rt_int)
      (fun H4 i σ' H' => ∃ a b, σ' = [some v, some u, some p, some x, some pv, some gv, a, b, none] ∧ Same H3 H' ∧ Same H4 H') (fun H4 s4 => ⟨none, none, rfl, s4, Same.refl _⟩) (fun _ _ _ _ _ _ ⟨_, _, _, _, h⟩ => Same.ts h)
      (fun H4 i d y σ' H5 H6 s4 hd st s6 r => ?_) (fun H4 σ' H5 s4 st => ?_))
    · obtain ⟨a, b, rfl, p1, p2⟩ := st
      obtain ⟨Tq, y1, y2, ey, hT, hy1, hy2⟩ := r
      have hy1 : y1 = .int (d.1 : Int) := hy1
      have hy2 : y2 = .int d.2 := hy2
      subst hy1 hy2
      have hdt := enm_mem (List.mem_of_getElem? hd)
      have hdl : d.1 < t.length := by
        rcases Nat.lt_or_ge d.1 wt.length with z | z
        · rw [← ok.len]; exact z
        · rw [List.getElem?_eq_none z] at hdt; cases hdt
      have hwg : Pt.wg wt d.1 = d.2 := by show wt.getD d.1 0 = d.2; rw [List.getD, hdt]; rfl
      have hcut := gp.cut pt hb d.1 hdl
      rw [hwg] at hcut
      refine g_pair 6 7 ey hT (hN := sc_proves.nd) ?_
      have pS := p1.trans s6
      refine ss_one (s_guard (CT.to (CW.ct (cw_or (k := false) (l := false)
        (CT.to (CW.ct (cw_and (k := decide (d.1 ∈ pt)) (l := false) (ct_in (x := d.1) (l := pt) (cv_var 6 rfl) ((cv_var 2 rfl).imp fun z H7 s7 e => by subst e; exact hp.m ((s123.trans pS).trans s7))) fun hin =>
          cw_and1 (CT.to (ct_lt (i := Pt.osum (fun p => decide (p.2 = d.1)) (es.filter fun e => decide (e.1.1 ∈ pt))) (j := -d.2) (CP.imp (cp_ixL (R := RInt) (i := (d.1 : Int)) ((cv_var 5 rfl).imp fun z H7 s7 e => by subst e; exact rm_lst rt_int.m _ _ _ _ (pS.trans s7) hgets) (cv_var 6 rfl) (atI_nat (Pt.sums_get hdl)) rt_int.m) fun z H7 _ e => e) (cv_neg (cv_var 7 rfl))) (decide_eq_false ?_)))) (Bool.and_false _)) fun _ =>
        cw_or1 (CT.to (CW.ct (cw_and (k := decide (d.1 ∉ pt)) (l := false) (ct_notIn (x := d.1) (l := pt) (cv_var 6 rfl) ((cv_var 2 rfl).imp fun z H7 s7 e => by subst e; exact hp.m ((s123.trans pS).trans s7))) fun hin =>
          cw_and1 (CT.to (ct_lt (i := Pt.osum (fun p => decide (p.1 = d.1)) es) (j := d.2) (CP.imp (cp_ixL (R := RInt) (i := (d.1 : Int)) ((cv_var 4 rfl).imp fun z H7 s7 e => by subst e; exact rm_lst rt_int.m _ _ _ _ ((s3.trans pS).trans s7) hpays) (cv_var 6 rfl) (atI_nat (Pt.sums_get hdl)) rt_int.m) fun z H7 _ e => e) (cv_var 7 rfl)) (decide_eq_false ?_)))) (Bool.and_false _)))) rfl) fun H7 s7 => ⟨_, _, rfl, pS.trans s7, (p2.trans s6).trans s7⟩)
      · have h1 : Pt.osum (Pt.inP pt d.1) es = max 0 (-d.2) := hcut.1 (of_decide_eq_true hin)
        have h2 : Pt.osum (fun p => decide (p.2 = d.1)) (es.filter fun e => decide (e.1.1 ∈ pt)) = Pt.osum (Pt.inP pt d.1) es := Pt.osum_filter (fun p => decide (p.2 = d.1)) (fun p => decide (p.1 ∈ pt)) es
        rw [h2, h1]
        have := Int.le_max_right 0 (-d.2)
        omega
      · have h1 : Pt.osum (fun p => decide (p.1 = d.1)) es = max 0 d.2 := hcut.2 (of_decide_eq_true hin)
        rw [h1]
        have := Int.le_max_right 0 d.2
        omega
    · obtain ⟨a, b, rfl, p1, p2⟩ := st
      exact ss_one (s_ret cv_bl fun z H6 s6 e => k z H6 ((s123.trans p1).trans s6) e)
abbrev PShows (P : Program) (w : World) (K : PySem.W.Frag) (mg : Str → Option Value) (base : Heap) : Prop := Pm P w K mg base "shows_best" 7 ["ground", "worths", "pit", "value"] (SpI (aPrv (CG K)) rTrue)
theorem sc_shows_best : FnScope ["ground", "worths", "pit", "value"] ["ground", "worths", "pit", "value"] (defScope s_shows_best) := ⟨rfl, rfl, rfl, by decide +kernel, rfl, by decide +kernel, by decide +kernel⟩
theorem ok_shows_best (GW : PNeedW P w K mg base) (GN : PNeedPit P w K mg base) (GP : PPrv P w K mg base) (D : Df K mg "shows_best" s_shows_best) : PShows P w K mg base := by
  refine D.pm sc_shows_best (fun _ _ _ _ _ _ us hl => match us, hl with | [_, _, _, _], _ => rfl) (fun vs H Q E h => ?_) (fun f cdv A outer s H vs Q E hr h => ?_)
  · obtain ⟨i, ⟨v, u, p, x, rfl, _⟩, _⟩ := h; rfl
  · obtain ⟨⟨t, wt, pt, es⟩, ⟨v, u, p, x, rfl, hg, hw, hp, hx, wf, ok, hz, gp, hb⟩, k⟩ := h
    have hxm : ∀ {H1 : Hp}, Same H H1 → IsTup RPay H1 es x := fun s1 => let ⟨a, xs, e, h1, h2⟩ := hx; ⟨a, xs, e, s1 _ _ h1, paired_rm rt_pay.m s1 h2⟩
    refine ss_cons (s_exprC (cp_callI GW (t, wt) (hr.mono (by decide)) (ca_v (cv_var 0 rfl) (ca_v (cv_var 1 rfl) ca_nil)) (fun vs H1 s1 e => ⟨_, _, e, hg.m s1, hw.m s1, wf, ok⟩)) fun H1 s1 => ?_)
    refine ss_cons (s_exprC (cp_callI GN (t, pt) hr (ca_v (cv_var 0 rfl) (ca_v (cv_var 2 rfl) ca_nil)) (fun vs H2 s2 e => ⟨_, _, e, hg.m (s1.trans s2), hp.m (s1.trans s2), wf, hb.1⟩)) fun H2 s2 => ?_)
    have s12 := s1.trans s2
    exact ss_one (s_ret (CP.imp (cp_callI GP (t, wt, pt, es) hr (ca_v (cv_var 0 rfl) (ca_v (cv_var 1 rfl) (ca_v (cv_var 2 rfl) (ca_v (cv_var 3 rfl) ca_nil)))) (fun vs H3 s3 e => ⟨_, _, _, _, e, hg.m (s12.trans s3), hw.m (s12.trans s3), hp.m (s12.trans s3), hxm (s12.trans s3), wf, ok, hz, gp, hb⟩)) fun z H3 _ e => e) fun z H3 s3 e => k z H3 (s12.trans s3) e)
abbrev GWP := List (List Nat) × List Int × List Nat
def aVer (C : Addr) (i : GWP) (vs : List V) (H : Hp) : Prop := ∃ v u p, vs = [v, u, p] ∧ IsG C H i.1 v ∧ IsW H i.2.1 u ∧ IsL H i.2.2 p ∧ WfG i.1 ∧ WOk i.1.length i.2.1 ∧ Pt.Best i.1 i.2.1 i.2.2
def rVer (_ : GWP) (v : V) (H : Hp) : Prop := ∃ T y, v = .ref T ∧ H T = some (.tup [.str "best", y])
abbrev PVer (P : Program) (w : World) (K : PySem.W.Frag) (mg : Str → Option Value) (base : Heap) : Prop := Pm P w K mg base "verdict" 7 ["ground", "worths", "pit"] (SpI (aVer (CG K)) rVer)
theorem sc_verdict : FnScope ["ground", "worths", "pit", "some"] ["ground", "worths", "pit"] (defScope s_verdict) := ⟨rfl, rfl, rfl, by decide +kernel, rfl, by decide +kernel, by decide +kernel⟩
theorem lay_lots : ∀ ls : List (List Nat), PyData.canLayAll0 (ls.map lotD) = true
  | [] => by simp [PyData.canLayAll0]
  | l :: ls => by
    rw [List.map_cons]
    have h : (lotD l).canLay0 = true := by unfold lotD; simp only [PyData.canLay0, lay_ints]
    simp only [PyData.canLayAll0, h, lay_lots ls, Bool.and_self]
theorem dep_lots : ∀ ls : List (List Nat), PyData.depthAll (ls.map lotD) ≤ 10
  | [] => by simp [PyData.depthAll]
  | l :: ls => by
    rw [List.map_cons]
    have h : (lotD l).depth ≤ 10 := by unfold lotD; simp only [PyData.depth, dep_ints]; decide
    have := dep_lots ls
    simp only [PyData.depthAll]
    omega
theorem shaped_lots (ls : List (List Nat)) : SeqAt.shaped (.list (ls.map lotD)) = true := by
  have h0 := dep_lots ls
  have h1 : (PyData.list (ls.map lotD)).canLay0 = true := by simp only [PyData.canLay0, lay_lots]
  have h2 : (PyData.list (ls.map lotD)).depth ≤ 64 := by simp only [PyData.depth]; omega
  unfold SeqAt.shaped
  rw [h1, decide_eq_true h2]
  rfl
theorem dp_lots {H : Hp} {ls : List (List Nat)} {xs : List V} (h : Paired (IsL H) ls xs) : DpAll K H xs (ls.map lotD) := by
  induction h with
  | nil => exact .nil
  | cons h t ih => exact .cons (dp_lot h) ih
theorem ok_verdict (T : Tx K mg) (GW : PNeedW P w K mg base) (GN : PNeedPit P w K mg base) (GB : PBests P w K mg base) (GP : PGPay P w K mg base) (D : Df K mg "verdict" s_verdict) : PVer P w K mg base := by
  refine D.pm sc_verdict (fun _ _ _ _ _ _ us hl => match us, hl with | [_, _, _], _ => rfl) (fun vs H Q E h => ?_) (fun f cdv A outer s H vs Q E hr h => ?_)
  · obtain ⟨i, ⟨v, u, p, rfl, _⟩, _⟩ := h; rfl
  · obtain ⟨⟨t, wt, pt⟩, ⟨v, u, p, rfl, hg, hw, hp, wf, ok, hb⟩, k⟩ := h
    have hp : IsL H pt p := hp
    have hb : Pt.Best t wt pt := hb
    obtain ⟨tk, gB⟩ := T.best
    have hu : (A.deeper (envOfC "verdict" (defScope s_verdict) s.heap.objs.size f cdv)).units + 65 < cLine := by have := hr.un; omega
    refine ss_cons (s_exprC (cp_callI GW (t, wt) (hr.mono (by decide)) (ca_v (cv_var 0 rfl) (ca_v (cv_var 1 rfl) ca_nil)) (fun vs H1 s1 e => ⟨_, _, e, hg.m s1, hw.m s1, wf, ok⟩)) fun H1 s1 => ?_)
    refine ss_cons (s_exprC (cp_callI GN (t, pt) hr (ca_v (cv_var 0 rfl) (ca_v (cv_var 2 rfl) ca_nil)) (fun vs H2 s2 e => ⟨_, _, e, hg.m (s1.trans s2), hp.m (s1.trans s2), wf, hb.1⟩)) fun H2 s2 => ?_)
    have s12 := s1.trans s2
    refine ss_cons (s_set 3 (P := fun z H3 => rBests (t, wt) z H3) (CP.imp (cp_callI GB (t, wt) (hr.mono (by decide)) (ca_v (cv_var 0 rfl) (ca_v (cv_var 1 rfl) ca_nil)) (fun vs H3 s3 e => ⟨_, _, e, hg.m (s12.trans s3), hw.m (s12.trans s3), wf, ok⟩)) fun z H3 _ e => e) (fun z H3 s3 ⟨bs, hbs, hl⟩ => ?_) (hN := sc_verdict.nd))
    have s123 := s12.trans s3
    have hin : pt ∈ bs := (hbs.mem pt).mpr hb
    have hany : ((bs.map lotD).any fun z => PyData.eqv z (lotD pt)) = true := by
      rw [List.any_eq_true]
      exact ⟨lotD pt, List.mem_map.mpr ⟨pt, hin, rfl⟩, by rw [eqv_lot]; exact decide_eq_true rfl⟩
    refine ss_cons (s_if (b := true) (ct_cmp (op_inD hu) (Pa := fun z H4 => IsL H4 pt z) (Pb := fun z H4 => IsLst IsL H4 bs z) ((cv_var 2 rfl).imp fun z H4 s4 e => by subst e; exact hp.m (s123.trans s4)) ((cv_var 3 rfl).imp fun z H4 s4 e => by subst e; exact rm_lst rt_l.m _ _ _ _ s4 hl) (mon_l pt) rfl
      fun y1 y2 H4 s4 h1 ⟨a, xs, e2, h2, h3⟩ Q' k' => ⟨lotD pt, bs.map lotD, dp_lot h1, by rw [e2]; exact .lst (SqL.of h2) (dp_lots h3), shaped_lot pt, shaped_lots bs, by rw [hany]; exact k' _ (Same.refl _)⟩) (fun _ H4 s4 => ?_) (fun z => nomatch z))
    refine ss_one (s_ret (cp_tup (A := fun vs _ => ∃ y, vs = [.str "best", y]) (CA.imp (ca_vx (v := .str "best") (cv_glob (v := .str "best") (by rfl) gB ⟨tk, rfl⟩) (ca_one (P := fun y H5 => rPays (t, wt) y H5) (CP.imp (cp_callI GP (t, wt) (hr.mono (by decide)) (ca_v (cv_var 0 rfl) (ca_v (cv_var 1 rfl) ca_nil)) (fun vs H5 s5 e => ⟨_, _, e, hg.m ((s123.trans s4).trans s5), hw.m ((s123.trans s4).trans s5), wf, ok⟩)) fun z H5 _ e => e))) fun vs H5 _ ⟨r, e1, y, e2, _⟩ => ⟨y, by rw [e1, e2]⟩) (fun _ _ _ _ e => e) (fun vs _ ⟨y, e⟩ => by rw [e]; show 2 ≤ 1000; decide)) fun z H5 s5 ⟨Tq, vs, g1, g2, y, g3⟩ => k z H5 ((s123.trans s4).trans s5) ⟨Tq, y, g1, by rw [g2, g3]⟩)
end
end Pz
end
section
set_option Elab.async false
set_option linter.all false
set_option maxRecDepth 100000
set_option maxHeartbeats 4000000
namespace Pz
open PySem PySem.Spec PyProof.Rows L2
section
variable {X : Cx} {o i e a b : Expr} {σ : L2.St} {H : Hp} {pos p : Pos} {l : Addr} {xs : List V} {v : V}
/-- l[i] of a raw list -/
theorem cv_ixLRaw {j : Int} {y : V} (ha : CV X a σ H (.ref l)) (hl : H l = some (.lst xs)) (hb : CV X b σ H (.int j)) (hd : atI xs j = some y) (hs : PlainIx b := by exact fun _ _ => rfl) : CV X (.Subscript a b pos) σ H y :=
  cp_ixL (R := RV) (ds := xs) (d := y) (CP.imp ha fun v H1 s e => ⟨l, xs, e, s _ _ hl, paired_v xs⟩) hb hd rm_v hs
/-- script[i] -/
theorem cv_ixS {j : Int} {y : V} (hq : ∀ H1, Same H H1 → SqL X.K H1 l xs) (ha : CV X a σ H (.ref l)) (hb : CV X b σ H (.int j)) (hd : atI xs j = some y) (hs : PlainIx b := by exact fun _ _ => rfl) : CV X (.Subscript a b pos) σ H y := fun H0 s0 Q q =>
  ⟨_, pe_ix ix_list re_pe re_pe hs, two ha hb (mon_eq _) s0 fun x z H1 s1 e1 e2 => by
    subst e1 e2
    exact ⟨l, xs, j, y, rfl, rfl, hq H1 (s0.trans s1), hd, q y H1 s1 rfl⟩⟩
/-- len(script) -/
theorem cv_lenS (hm : X.mg "len" = none) (hq : ∀ H1, Same H H1 → SqL X.K H1 l xs) (ha : CV X e σ H (.ref l)) (hg : Gl X "len" := by rfl) (hs : Sg X e := by rfl) (hpl : (backTo pos (starEach [] X.env)).any (·.1) = false := by rfl) : CV X (.Call (.Name "len" p) [e] [] pos) σ H (.int (xs.length : Int)) :=
  cp_b1 call_len hm boot_len ha (fun v H1 s1 ev Q k => by
    subst ev
    exact ⟨_, xs.length, rfl, Or.inl ⟨xs, hq H1 s1, rfl⟩, k _ H1 (Same.refl _) rfl⟩) hg (by decide) (by decide) hs hpl
/-- int(an int) -/
theorem cv_intOf {n : Int} (hm : X.mg "int" = none) (ha : CV X e σ H (.int n)) (hg : Gl X "int" := by rfl) (hs : Sg X e := by rfl) (hpl : (backTo pos (starEach [] X.env)).any (·.1) = false := by rfl) : CV X (.Call (.Name "int" p) [e] [] pos) σ H (.int n) :=
  cp_t1 call_int1 hm (by decide +kernel) ha (fun v H1 s1 ev Q k => by
    subst ev
    exact .inl ⟨n, rfl, k _ H1 (Same.refl _) rfl⟩) hg (by decide) (by decide) hs hpl
/-- l[i] = .. -/
theorem g_lset {k : Int} {j : Nat} {Q : L2.St → Hp → Prop} (ho : CV X o σ H (.ref l)) (hl : H l = some (.lst xs)) (hi : CV X i σ H (.int k)) (hj : ixN xs.length k = some j) (q : ∀ H1, Same H H1 → H1 l = some (.lst xs) → Q σ (L2.upd H1 l (.lst (xs.set j v))))
    (ha : ∀ v, assign (.Subscript o i pos) X.env v = (do
      let ov ← holding [v] (eval o X.env)
      let iv ← holding [v, ov] (eval i X.env)
      standAt pos
      holding [v, ov, iv] (setItem ov iv v)
      release [v, ov, iv] []) := by intro _; rfl) : RG X (.Subscript o i pos) v σ H Q :=
  ⟨_, pg_sub re_pe re_pe set_list ha, ho H (Same.refl _) _ fun x H1 s1 e1 => hi H1 s1 _ fun y H2 s2 e2 => by
    subst e1 e2
    have h2 := (s1.trans s2) _ _ hl
    exact ⟨l, xs, k, j, rfl, rfl, h2, hj, q H2 (s1.trans s2) h2⟩⟩
end
section
variable {P : Program} {w : World} {K : PySem.W.Frag} {mg : Str → Option Value} {base : Heap}
/-! ### the law's row -/
structure RowAt (K : PySem.W.Frag) (R S : Addr) (ns : List Int) (H : Hp) : Prop where
  row : ∃ i x y : Int, H R = some (.lst [.ref S, .int i, .int x, .int y]) ∧ 0 ≤ i ∧ 0 ≤ x ∧ x < 2147483647
  scr : ∀ H', But1 R H H' → SqL K H' S (iv ns)
theorem But1.of {R : Addr} {H H' : Hp} (s : Same H H') : But1 R H H' := fun b o _ e => s _ _ e
theorem But1.trans {R : Addr} {H H1 H2 : Hp} (a : But1 R H H1) (b : But1 R H1 H2) : But1 R H H2 := fun c o h e => b c o h (a c o h e)
theorem but1_upd {R : Addr} {H : Hp} {o : HO} : But1 R H (L2.upd H R o) := fun c o' h e => by rw [upd_ne h]; exact e
theorem RowAt.m {R S : Addr} {ns : List Int} {H H' : Hp} (h : RowAt K R S ns H) (s : Same H H') : RowAt K R S ns H' :=
  ⟨let ⟨i, x, y, h1, h2⟩ := h.row; ⟨i, x, y, s _ _ h1, h2⟩, fun H2 b => h.scr H2 (But1.trans (But1.of s) b)⟩
theorem RowAt.put {R S : Addr} {ns : List Int} {H H' : Hp} (h : RowAt K R S ns H) (b : But1 R H H') {i x y : Int} (e : H' R = some (.lst [.ref S, .int i, .int x, .int y])) (h1 : 0 ≤ i) (h2 : 0 ≤ x) (h3 : x < 2147483647) : RowAt K R S ns H' :=
  ⟨⟨i, x, y, e, h1, h2, h3⟩, fun H2 b2 => h.scr H2 (But1.trans b b2)⟩
def spTaken (K : PySem.W.Frag) : Sp := fun vs H Q _ => ∃ (R S : Addr) (ns : List Int) (many : Nat), vs = [.ref R, .int (many : Int)] ∧ RowAt K R S ns H ∧ 1 ≤ many ∧ many ≤ 1000 ∧ ns.length ≤ 100 ∧
  ∀ H' (r : Nat), But1 R H H' → RowAt K R S ns H' → r < many → Q (.int (r : Int)) H'
abbrev PTaken (P : Program) (w : World) (K : PySem.W.Frag) (mg : Str → Option Value) (base : Heap) : Prop := Pm P w K mg base "_law_taken" 1 ["_law_row", "_law_many"] (spTaken K)
theorem sc_law_taken : FnScope ["_law_row", "_law_many", "_law_found", "_law_cell"] ["_law_row", "_law_many"] (defScope s_law_taken) := ⟨rfl, rfl, rfl, by decide +kernel, rfl, by decide +kernel, by decide +kernel⟩
theorem mod_nat {a : Int} {m : Nat} (h : 1 ≤ m) : ∃ r : Nat, a % (m : Int) = (r : Int) ∧ r < m := by
  have h1 := Int.emod_nonneg a (show (m : Int) ≠ 0 by omega)
  have h2 := Int.emod_lt_of_pos a (show (0 : Int) < m by omega)
  exact ⟨(a % (m : Int)).toNat, by omega, by omega⟩
theorem ok_law_taken (T : Tx K mg) (D : Df K mg "_law_taken" s_law_taken) : PTaken P w K mg base := by
  refine D.pm sc_law_taken (fun _ _ _ _ _ _ us hl => match us, hl with | [_, _], _ => rfl) (fun vs H Q E h => ?_) (fun f cdv A outer s H vs Q E hr h => ?_)
  · obtain ⟨R, S, ns, m, rfl, _⟩ := h; rfl
  · obtain ⟨R, S, ns, m, rfl, hR, hm1, hm2, hn, k⟩ := h
    obtain ⟨i, x, y, hrow, hi, hx0, hx1⟩ := hR.row
    have im : (m : Int) ≠ 0 := by omega
    refine ss_cons (s_if (b := decide (0 < y)) (ct_gt (cv_ixLRaw (cv_var 0 rfl) hrow cv_int rfl) cv_int) (fun hy H1 s1 => ?_) (fun hy H1 s1 => ss_nil ?_))
    · obtain ⟨r, hr1, hr2⟩ := mod_nat (a := y) hm1
      refine ss_cons (s_set 2 (P := fun z _ => z = .int (r : Int)) (CP.imp (cv_mod (cv_intOf T.int (cv_ixLRaw (cv_var 0 rfl) (s1 _ _ hrow) cv_int rfl)) (cv_var 1 rfl) (by omega)) fun z H2 _ e => e.trans (by rw [hr1])) (fun z H2 s2 ez => ?_) (hN := sc_law_taken.nd))
      subst ez
      have s12 := s1.trans s2
      refine ss_cons (s_asg (cv_div (cv_ixLRaw (cv_var 0 rfl) (s12 _ _ hrow) cv_int rfl) (cv_var 1 rfl) ⟨by omega, by omega⟩) fun z H3 s3 ez => g_lset (cv_var 0 rfl) (s3 _ _ (s12 _ _ hrow)) cv_int rfl fun H4 s4 h4 => ?_)
      subst ez
      have b4 : But1 R H (L2.upd H4 R (.lst [.ref S, .int i, .int x, .int (y / (m : Int))])) := But1.trans (But1.of ((s12.trans s3).trans s4)) but1_upd
      exact ss_one (s_ret (cv_var 2 rfl) fun z H5 s5 ez => by subst ez; exact k H5 r (But1.trans b4 (But1.of s5)) ((hR.put b4 upd_same hi hx0 hx1).m s5) hr2)
    refine ss_cons (s_asg (cv_add (cv_ixLRaw (cv_var 0 rfl) (s1 _ _ hrow) cv_int rfl) cv_int) fun z H2 s2 ez => g_lset (cv_var 0 rfl) (s2 _ _ (s1 _ _ hrow)) cv_int rfl fun H3 s3 h3 => ?_)
    subst ez
    have b3 : But1 R H (L2.upd H3 R (.lst [.ref S, .int (i + 1), .int x, .int y])) := But1.trans (But1.of ((s1.trans s2).trans s3)) but1_upd
    have hR3 := hR.put b3 upd_same (show 0 ≤ i + 1 by omega) hx0 hx1
    have hrow3 : (L2.upd H3 R (.lst [.ref S, .int (i + 1), .int x, .int y])) R = some (.lst [.ref S, .int (i + 1), .int x, .int y]) := upd_same
    show RSs _ _ _ [some (.ref R), some (.int (m : Int)), none, none] (L2.upd H3 R (.lst [.ref S, .int (i + 1), .int x, .int y]))
    generalize L2.upd H3 R (.lst [.ref S, .int (i + 1), .int x, .int y]) = H4 at b3 hR3 hrow3
    have hscr : ∀ H5, Same H4 H5 → SqL K H5 S (iv ns) := fun H5 s5 => hR3.scr H5 (But1.of s5)
    refine ss_cons (s_if (b := decide ((iv ns).length < i + 1)) (ct_gt (cv_ixLRaw (cv_var 0 rfl) hrow3 cv_int rfl) (cv_lenS (l := S) T.len hscr (cv_ixLRaw (cv_var 0 rfl) hrow3 cv_int rfl))) (fun hgt H5 s5 => ?_) (fun hgt H5 s5 => ss_nil ?_))
    · refine ss_cons (s_asg (cv_mod (cv_intOf T.int (cv_add (cv_mul (cv_ixLRaw (cv_var 0 rfl) (s5 _ _ hrow3) cv_int rfl) cv_int (.inl ⟨by omega, by omega⟩)) cv_int)) cv_int (by decide)) fun z H6 s6 ez => g_lset (cv_var 0 rfl) (s6 _ _ (s5 _ _ hrow3)) cv_int rfl fun H7 s7 h7 => ?_)
      subst ez
      have hx2 : 0 ≤ (x * 48271 + 11) % 2147483647 := Int.emod_nonneg _ (by decide)
      have hx3 : (x * 48271 + 11) % 2147483647 < 2147483647 := Int.emod_lt_of_pos _ (by decide)
      have b7 : But1 R H (L2.upd H7 R (.lst [.ref S, .int (i + 1), .int ((x * 48271 + 11) % 2147483647), .int y])) := But1.trans (But1.trans b3 (But1.of ((s5.trans s6).trans s7))) but1_upd
      have hR7 := hR.put b7 upd_same (show 0 ≤ i + 1 by omega) hx2 hx3
      obtain ⟨r, hr1, hr2⟩ := mod_nat (a := (x * 48271 + 11) % 2147483647 / 7) hm1
      exact ss_one (s_ret (CP.imp (cv_mod (cv_intOf T.int (cv_div (cv_ixLRaw (l := R) (cv_var 0 rfl) upd_same cv_int rfl) cv_int ⟨by decide, by decide⟩)) (cv_var 1 rfl) (by omega)) fun z H8 _ e => e.trans (by rw [hr1])) fun z H8 s8 ez => by subst ez; exact k H8 r (But1.trans b7 (But1.of s8)) (hR7.m s8) hr2)
    · have hgt := of_decide_eq_false hgt
      have hlen : (iv ns).length = ns.length := List.length_map _
      have hil : i.toNat < ns.length := by omega
      have hix : atI (iv ns) (i + 1 - 1) = some (.int (ns.getD i.toNat 0)) := by
        have : i + 1 - 1 = ((i.toNat : Nat) : Int) := by omega
        rw [this]
        exact atI_iv hil
      generalize ns.getD i.toNat 0 = c at hix
      refine ss_cons (s_set 3 (P := fun z _ => z = .int c) (cv_ixS (l := S) (xs := iv ns) (fun H6 s6 => hscr H6 (s5.trans s6)) (cv_ixLRaw (cv_var 0 rfl) (s5 _ _ hrow3) cv_int rfl) (cv_sub (cv_ixLRaw (cv_var 0 rfl) (s5 _ _ hrow3) cv_int rfl) cv_int) hix) (fun z H6 s6 ez => ?_) (hN := sc_law_taken.nd))
      subst ez
      have s56 := s5.trans s6
      refine ss_cons (s_asg (cv_mod (cv_intOf T.int (cv_add (cv_add (cv_mul (cv_ixLRaw (cv_var 0 rfl) (s56 _ _ hrow3) cv_int rfl) cv_int (.inl ⟨by omega, by omega⟩)) (cv_var 3 rfl)) cv_int)) cv_int (by decide)) fun z H7 s7 ez => g_lset (cv_var 0 rfl) (s7 _ _ (s56 _ _ hrow3)) cv_int rfl fun H8 s8 h8 => ?_)
      subst ez
      have hx2 : 0 ≤ (x * 48271 + c + 11) % 2147483647 := Int.emod_nonneg _ (by decide)
      have hx3 : (x * 48271 + c + 11) % 2147483647 < 2147483647 := Int.emod_lt_of_pos _ (by decide)
      have b8 : But1 R H (L2.upd H8 R (.lst [.ref S, .int (i + 1), .int ((x * 48271 + c + 11) % 2147483647), .int y])) := But1.trans (But1.trans b3 (But1.of ((s56.trans s7).trans s8))) but1_upd
      have hrow8 : (L2.upd H8 R (.lst [.ref S, .int (i + 1), .int ((x * 48271 + c + 11) % 2147483647), .int y])) R = some (.lst [.ref S, .int (i + 1), .int ((x * 48271 + c + 11) % 2147483647), .int y]) := upd_same
      show RSs _ _ _ [some (.ref R), some (.int (m : Int)), none, some (.int c)] (L2.upd H8 R (.lst [.ref S, .int (i + 1), .int ((x * 48271 + c + 11) % 2147483647), .int y]))
      generalize L2.upd H8 R (.lst [.ref S, .int (i + 1), .int ((x * 48271 + c + 11) % 2147483647), .int y]) = H9 at b8 hrow8
      obtain ⟨r, hr1, hr2⟩ := mod_nat (a := c) hm1
      have fin : ∀ {H10 : Hp} {y' : Int}, But1 R H9 H10 → H10 R = some (.lst [.ref S, .int (i + 1), .int ((x * 48271 + c + 11) % 2147483647), .int y']) → ∀ H11, Same H10 H11 → Q (.int (r : Int)) H11 := fun b e H11 s11 =>
        k H11 r (But1.trans (But1.trans b8 b) (But1.of s11)) ((hR.put (But1.trans b8 b) e (show 0 ≤ i + 1 by omega) hx2 hx3).m s11) hr2
      refine ss_cons (s_if (b := decide (10 ^ 18 ≤ c)) (CT.to (ct_ge (cv_var 3 rfl) (cv_pow (i := 10) (j := 18) cv_int cv_int ⟨by decide, by decide, by decide⟩)) (by rfl)) (fun hge H10 s10 => ?_) (fun hge H10 s10 => ss_nil ?_))
      · refine ss_one (s_asg (cv_div (cv_var 3 rfl) (cv_var 1 rfl) ⟨by omega, by omega⟩) fun z H11 s11 ez => g_lset (cv_var 0 rfl) (s11 _ _ (s10 _ _ hrow8)) cv_int rfl fun H12 s12 h12 => ?_)
        subst ez
        exact ss_one (s_ret (CP.imp (cv_mod (cv_intOf T.int (cv_var 3 rfl)) (cv_var 1 rfl) (by omega)) fun z H13 _ e => e.trans (by rw [hr1])) fun z H13 s13 ez => by subst ez; exact fin (But1.trans (But1.of ((s10.trans s11).trans s12)) but1_upd) upd_same H13 s13)
      · exact ss_one (s_ret (CP.imp (cv_mod (cv_intOf T.int (cv_var 3 rfl)) (cv_var 1 rfl) (by omega)) fun z H13 _ e => e.trans (by rw [hr1])) fun z H13 s13 ez => by subst ez; exact fin (But1.of s10) (s10 _ _ hrow8) H13 s13)
end
end Pz
end
section
set_option Elab.async false
set_option linter.all false
set_option maxRecDepth 100000
set_option maxHeartbeats 4000000
namespace Pz
open PySem PySem.Spec PyProof.Rows L2
/-! ### effects on the row -/
def JR (R S : Addr) (Hb H' : Hp) : Prop := But1 R Hb H' ∧ ∃ i x y : Int, H' R = some (.lst [.ref S, .int i, .int x, .int y]) ∧ 0 ≤ i ∧ 0 ≤ x ∧ x < 2147483647
theorem JR.s {R S : Addr} {Hb H H' : Hp} (h : JR R S Hb H) (s : Same H H') : JR R S Hb H' := ⟨But1.trans h.1 (But1.of s), let ⟨i, x, y, h1, h2⟩ := h.2; ⟨i, x, y, s _ _ h1, h2⟩⟩
theorem JR.d {R S : Addr} {Hb H : Hp} (h : JR R S Hb H) {D : Addr} {o : HO} (hD : Hb D = none) (hne : D ≠ R) : JR R S Hb (L2.upd H D o) :=
  ⟨fun c o' hc e => by rw [upd_ne (fun z => by rw [z, hD] at e; cases e)]; exact h.1 c o' hc e, let ⟨i, x, y, h1, h2⟩ := h.2; ⟨i, x, y, by rw [upd_ne (Ne.symm hne)]; exact h1, h2⟩⟩
theorem JR.row {K : PySem.W.Frag} {R S : Addr} {ns : List Int} {Hb H : Hp} (h : JR R S Hb H) (hR : RowAt K R S ns Hb) : RowAt K R S ns H := let ⟨i, x, y, h1, h2, h3, h4⟩ := h.2; hR.put h.1 h1 h2 h3 h4
theorem RowAt.jr {K : PySem.W.Frag} {R S : Addr} {ns : List Int} {H : Hp} (hR : RowAt K R S ns H) : JR R S H H := ⟨fun _ _ _ e => e, hR.row⟩
section
variable {X : Cx} {a b e elt : Expr} {es ifs : List Expr} {σ : L2.St} {H : Hp} {pos p : Pos} {Q : VK} {D : Ends}
theorem re_taken {R S : Addr} {ns : List Int} {Hb : Hp} {many : Nat} (G : PTaken X.prog X.w X.K X.mg X.base) (hr : Room 1 X.A) (hRb : RowAt X.K R S ns Hb) (hJ : JR R S Hb H) (ha : CV X a σ H (.ref R)) (hb : CV X b σ H (.int (many : Int))) (h1 : 1 ≤ many) (h2 : many ≤ 1000) (hn : ns.length ≤ 100)
    (q : ∀ H' (r : Nat), JR R S Hb H' → But1 R H H' → r < many → Q (.int (r : Int)) H') (hg : Gl X "_law_taken" := by rfl) (hs1 : starEach (a :: [b]) X.env = (false, eval a X.env) :: starEach [b] X.env := by rfl) (hs2 : Sg X b := by rfl) (hpl : (backTo pos (starEach [b] X.env)).any (·.1) = false := by rfl) :
    RE X (.Call (.Name "_law_taken" p) [a, b] [] pos) σ H Q :=
  re_call G hr (ca_v ha (ca_v hb ca_nil hs2) hs1) (fun vs H1 s1 ev => ⟨R, S, ns, many, ev, (hJ.s s1).row hRb, h1, h2, hn, fun H' r b' row hr' => q H' r ⟨But1.trans (But1.trans hJ.1 (But1.of s1)) b', row.row⟩ (But1.trans (But1.of s1) b') hr'⟩) hg (by decide) hs1 hpl
theorem ra_nil {Q1 : List V → Hp → Prop} (q : Q1 [] H) : RA X [] σ H Q1 := ⟨_, pa_nil, q⟩
theorem ra_cons {Q1 : List V → Hp → Prop} (h : RE X a σ H fun v H1 => RA X es σ H1 fun vs H2 => Q1 (v :: vs) H2) (hs : starEach (a :: es) X.env = (false, eval a X.env) :: starEach es X.env := by rfl) : RA X (a :: es) σ H Q1 := ⟨_, pa_cons re_pe ra_pa hs, h⟩
/-- lists whose building turns the row -/
theorem lc_eff {scope : Scope} {own : List (Str × Nat)} {ds : List Nat} {px : Pos} {j : Nat} {n : Str} {R S : Addr} {Hb : Hp} {Z : Nat → List V → Prop} (hi : CI X (.Name n px) e σ H (fun _ _ => True) ds RNat)
    (hw : ∀ x, wipe ((wipe σ (own.map (·.2))).set j (some x)) (own.map (·.2)) = wipe σ (own.map (·.2))) (hz : ∀ i acc, Z i acc → acc.length ≤ i) (hn : ds.length ≤ 1000) (hJ : JR R S Hb H) (z0 : Z 0 [])
    (turn : ∀ (s0 : Shared) (H0 : Hp) (C : Addr) (cl : List (Str × Addr)) (fp : List Addr) (i d : Nat) (H' : Hp) (acc : List V) (Qt : Bool → Hp → Prop), ds[i]? = some d → JR R S Hb H' → Z i acc →
      (∀ b H3, JR R S Hb H3 → But1 R H' H3 → (b = false → Z (i + 1) acc → Qt b H3) ∧ (b = true → (∀ (s1 : Shared) (H1 : Hp) (C1 : Addr) (cl1 : List (Str × Addr)) (fp1 : List Addr) (Qe : VK), (∀ v H4, JR R S Hb H4 → But1 R H3 H4 → Z (i + 1) (acc ++ [v]) → Qe v H4) → RE (X.blk s1 H1 scope (compEnvC scope cl1 C1 X.env) fp1) elt ((wipe σ (own.map (·.2))).set j (some (.int (d : Int)))) H3 Qe) → Qt b H3)) →
      RTs (X.blk s0 H0 scope (compEnvC scope cl C X.env) fp) ifs ((wipe σ (own.map (·.2))).set j (some (.int (d : Int)))) H' Qt)
    (fin : ∀ D acc H', JR R S Hb H' → H D = none → H' D = some (.lst acc) → Z ds.length acc → Q (.ref D) H') :
    tLc (RI X (.Name n px) e) (gName j) (tB1 X scope ifs) (eB1 X scope elt) (own.map (·.2)) σ H Q := by
  refine hi H (Same.refl _) _ fun J H2 s2 W D hD => ?_
  have hD0 : H D = none := s2.free hD
  have hRn : D ≠ R := fun e => by obtain ⟨i, x, y, h1, _⟩ := hJ.2; rw [e, h1] at hD0; cases hD0
  have hDb : Hb D = none := by
    cases e : Hb D with
    | none => rfl
    | some o => have := hJ.1 D o hRn e; rw [hD0] at this; cases this
  refine lc_it (g := gName j) (tt := tB1 X scope ifs) (te := eB1 X scope elt) (vs := own.map (·.2)) (σ := σ) W (Qd := fun H3 => Q (.ref D) H3) (fun i H3 => JR R S Hb H3 ∧ ∃ acc, H3 D = some (.lst acc) ∧ Z i acc)
    ⟨(hJ.s s2).d hDb hRn, [], upd_same, z0⟩ (fun i H3 _ p => trivial) ?_ ?_
  · rintro i x H3 H4 hi' ⟨p1, acc, p2, p3⟩ ⟨s4, d, hd, hR⟩
    have hR : x = .int (d : Int) := hR
    subst hR
    refine ⟨hw _, fun s0 H0 C cl fp => ?_⟩
    refine turn s0 H0 C cl fp i d H4 acc _ hd (p1.s s4) p3 fun b H5 j5 b5 => ⟨fun hb z => ?_, fun hb h => ?_⟩
    · subst hb
      rw [if_neg (by decide)]
      exact ⟨j5, acc, b5 D _ hRn (s4 _ _ p2), z⟩
    · subst hb
      rw [if_pos rfl]
      intro s1 H1 C1 cl1 fp1
      refine h s1 H1 C1 cl1 fp1 _ fun v H6 j6 b6 z6 => ⟨acc, b6 D _ hRn (b5 D _ hRn (s4 _ _ p2)), ?_, j6.d hDb hRn, acc ++ [v], upd_same, z6⟩
      have := hz i acc p3
      rw [sizeLine_eq]
      omega
  · rintro H3 ⟨p1, acc, p2, p3⟩
    exact fin D acc H3 p1 hD0 p2 p3
/-- tuple(e) -/
theorem re_tupleE (hm : X.mg "tuple" = none) (he : RE X e σ H fun v H1 => ∃ p ys, [v] = [V.ref p] ∧ ((SqL X.K H1 p ys ∧ ∀ l, H1 l = none → Q (.ref l) (L2.upd H1 l (.tup ys))) ∨ SqT X.K H1 p ys ∧ Q (.ref p) H1)) (hg : Gl X "tuple" := by rfl) (hs : Sg X e := by rfl) (hpl : (backTo pos (starEach [] X.env)).any (·.1) = false := by rfl) :
    RE X (.Call (.Name "tuple" p) [e] [] pos) σ H Q :=
  ⟨_, pe_callTy call_tuple_of hg hm (by decide +kernel) (pa_cons re_pe pa_nil hs) (by decide) (by decide) hs hpl, he⟩
/-- [.. for name in e ..] -/
theorem re_lcE {scope : Scope} {own : List (Str × Nat)} {j : Nat} {n : Str} {px : Pos} (ht : tLc (RI X (.Name n px) e) (gName j) (tB1 X scope ifs) (eB1 X scope elt) (own.map (·.2)) σ H Q) (hN : X.N.Nodup) (ok : BlkOk X.N X.env.scope scope own)
    (hg : Bk X scope fun Y => PG Y (.Name n px) (gName j)) (hc : X.calm = true := by rfl) (hs : ∀ x, foldedSetIterable e X.env x = pure x := by intro _; rfl) : RE X (.ListComp elt [⟨.Name n px, e, ifs, 0⟩] scope pos) σ H Q :=
  ⟨_, pe_lc (tt := tB1 X scope ifs) (te := eB1 X scope elt) hc hN ri_pi ok hg
    (fun s0 H0 C cl fp => ⟨fun pins s σ H Q I h => rts_pts.run pins s σ H Q I (h s0 H0 C cl fp)⟩) (fun s0 H0 C cl fp => ⟨fun pins s σ H Q I h => re_pe.run pins s σ H Q I (h s0 H0 C cl fp)⟩) hs, ht⟩
/-- name = [..], the row turned meanwhile -/
theorem s_setLcE {tg : Expr} {scope : Scope} {y : Str} {py spos : Pos} (i : Nat) (h : RL X elt tg e ifs scope σ H fun v H1 => D.nx (σ.set i (some v)) H1) (hN : X.N.Nodup) (hy : X.N[i]? = some y := by rfl) (hyl : X.env.scope.names.lookup y = some .local := by rfl) (hc : X.calm = true := by rfl)
    (hk : X.env.scope.kind = .function := by rfl) (hl : (py.line == pos.line) = true := by rfl) (ha : (scope.names.any fun (n, k) => n == y && (k == .local || k == .cell)) = false := by rfl) (hs : ∀ x, foldedSetIterable e X.env x = pure x := by intro _; rfl) :
    RS X (.Assign [.Name y py] (.ListComp elt [⟨tg, e, ifs, 0⟩] scope pos) spos) D σ H :=
  ⟨tAsg (RL X elt tg e ifs scope) (gName i), ⟨fun pins s σ H D I ⟨wi, g, tt, te, own, h1, h2, h3, h4, h5, q⟩ => (ps_setLc hc hN hy hyl (sw_true hk hyl hl ha) h1 h2 h3 h4 h5 hs).run pins s σ H D I q⟩, h⟩
theorem s_parE {n1 n2 : Str} {px py pt : Pos} {kt k2 : Nat} {pt2 : Pos} (i j : Nat) (ha : RA X [a, b] σ H fun vs H1 => ∃ v w, vs = [v, w] ∧ D.nx ((σ.set i (some v)).set j (some w)) H1) (hij : i ≠ j := by decide) (hN : X.N.Nodup := by decide +kernel) (hi : X.N[i]? = some n1 := by rfl) (hj : X.N[j]? = some n2 := by rfl)
    (hx : X.env.scope.names.lookup n1 = some .local := by rfl) (hy : X.env.scope.names.lookup n2 = some .local := by rfl) (hc : X.calm = true := by rfl)
    (hw : swappedStores [.Tuple [.Name n1 px, .Name n2 py] kt pt] (.Tuple [a, b] k2 pt2) X.env = pure (some [n1, n2]) := by rfl) (hs : swapsWithSole [.Tuple [.Name n1 px, .Name n2 py] kt pt] (.Tuple [a, b] k2 pt2) pos.line X.env = pure false := by rfl) :
    RS X (.Assign [.Tuple [.Name n1 px, .Name n2 py] kt pt] (.Tuple [a, b] k2 pt2) pos) D σ H := ⟨_, ps_par hc hN hi hj hij hx hy ra_pa hw hs, ha⟩
end
section
variable {P : Program} {w : World} {K : PySem.W.Frag} {mg : Str → Option Value} {base : Heap}
/-! ### _law_low -/
def spLow (K : PySem.W.Frag) : Sp := fun vs H Q _ => ∃ (R S : Addr) (ns : List Int) (many : Nat), vs = [.ref R, .int (many : Int)] ∧ RowAt K R S ns H ∧ many ≤ 10 ∧ ns.length ≤ 100 ∧
  ∀ H' zs v, JR R S H H' → IsW H' zs v → zs.length = many → (∀ z ∈ zs, -25 ≤ z ∧ z ≤ 25) → Q v H'
abbrev PLow (P : Program) (w : World) (K : PySem.W.Frag) (mg : Str → Option Value) (base : Heap) : Prop := Pm P w K mg base "_law_low" 2 ["_law_row", "_law_many"] (spLow K)
theorem sc_law_low : FnScope ["_law_row", "_law_many", "_law_block"] ["_law_row", "_law_many"] (defScope s_law_low) := ⟨rfl, rfl, rfl, by decide +kernel, rfl, by decide +kernel, by decide +kernel⟩
theorem ok_law_low (T : Tx K mg) (G : PTaken P w K mg base) (D : Df K mg "_law_low" s_law_low) : PLow P w K mg base := by
  refine D.pm sc_law_low (fun _ _ _ _ _ _ us hl => match us, hl with | [_, _], _ => rfl) (fun vs H Q E h => ?_) (fun f cdv A outer s H vs Q E hr h => ?_)
  · obtain ⟨R, S, ns, m, rfl, _⟩ := h; rfl
  · obtain ⟨R, S, ns, m, rfl, hR, hm, hn, k⟩ := h
    refine ss_one (s_retE (re_tupleE T.tuple (re_lcE (own := [("_law_block", 2)]) (j := 2) ?_ sc_law_low.nd
      (blkOk_by (own := [("_law_block", 2)]) (N := ["_law_row", "_law_many", "_law_block"]) (sc := defScope s_law_low) (by decide +kernel)) (fun _ _ _ _ _ => pg_name (i := 2) sc_law_low.nd rfl (Or.inl rfl)))))
    refine lc_eff (Hb := H) (R := R) (S := S) (Z := fun i acc => acc.length = i ∧ ∃ zs : List Int, acc = iv zs ∧ ∀ z ∈ zs, -25 ≤ z ∧ z ≤ 25) (ci_range1 (n := m) rfl T.range (cv_var 1 rfl) (by omega)) (fun _ => rfl) (fun i acc h => Nat.le_of_eq h.1) (by rw [List.length_range]; omega) hR.jr ⟨rfl, [], rfl, fun z hz => nomatch hz⟩ ?_ ?_
    · intro s0 H0 C cl fp i d H' acc Qt hd hJ hZ q
      refine ⟨_, pts_nil, (q true H' hJ (fun _ _ _ e => e)).2 rfl fun s1 H1 C1 cl1 fp1 Qe qe => ?_⟩
      refine ⟨_, pe_op op_add (pe_op op_sub re_pe re_pe) (pe_ix ix_list re_pe re_pe (fun _ _ => rfl)), re_taken (R := R) (S := S) (many := 11) G hr hR hJ (cv_var 0 rfl) cv_int (by decide) (by decide) hn fun H2 r1 j2 b2 hr1 => ?_⟩
      refine (cv_int : CV _ _ _ H2 (.int 5)) H2 (Same.refl _) _ fun v H3 s3 ev => ?_
      subst ev
      refine ⟨(r1 : Int), 5, rfl, rfl, ?_⟩
      refine (cp_lst (A := fun vs _ => vs = [.int 0, .int 20, .int (-20)]) (ca_v cv_int (ca_v cv_int (ca_v (cv_neg cv_int) ca_nil))) (fun _ _ _ _ e => e) (fun vs _ e => by rw [e]; show 3 ≤ 1000; decide)) H3 (Same.refl _) _ fun v H4 s4 ⟨LL, xs, ev, hL0, hL, exs⟩ => ?_
      subst ev exs
      have hLR : LL ≠ R := fun e => by obtain ⟨i', x', y', h1, _⟩ := (j2.s s3).2; rw [← e, hL0] at h1; cases h1
      refine re_taken (R := R) (S := S) (many := 3) G hr hR ((j2.s s3).s s4) (cv_var 0 rfl) cv_int (by decide) (by decide) hn fun H5 r2 j5 b5 hr2 => ?_
      have hL5 : H5 LL = some (.lst [.int 0, .int 20, .int (-20)]) := b5 _ _ hLR hL
      obtain ⟨c, hc, hc1, hc2⟩ : ∃ c : Int, atI [V.int 0, V.int 20, V.int (-20)] (r2 : Int) = some (.int c) ∧ -20 ≤ c ∧ c ≤ 20 := by
        match r2, hr2 with
        | 0, _ => exact ⟨0, rfl, by decide, by decide⟩
        | 1, _ => exact ⟨20, rfl, by decide, by decide⟩
        | 2, _ => exact ⟨-20, rfl, by decide, by decide⟩
      refine ⟨LL, _, (r2 : Int), .int c, rfl, rfl, SqL.of hL5, hc, (r1 : Int) - 5, c, rfl, rfl, qe _ H5 j5 ?_ ?_⟩
      · exact But1.trans (But1.trans b2 (But1.of (s3.trans s4))) b5
      · obtain ⟨h1, zs, h2, h3⟩ := hZ
        refine ⟨by rw [List.length_append, h1]; rfl, zs ++ [(r1 : Int) - 5 + c], by rw [h2]; unfold iv; rw [List.map_append]; rfl, fun z hz => ?_⟩
        rcases List.mem_append.mp hz with hz | hz
        · exact h3 z hz
        · rw [List.mem_singleton.mp hz]; omega
    · intro DD acc H' hJ hD0 hDD hZ
      rw [List.length_range] at hZ
      obtain ⟨h1, zs, h2, h3⟩ := hZ
      subst h2
      refine ⟨DD, iv zs, rfl, .inl ⟨SqL.of hDD, fun l hl => ?_⟩⟩
      exact k _ zs _ (hJ.s (same_new hl)) ⟨l, rfl, upd_same⟩ (by rw [← h1]; exact (List.length_map _).symm) h3
end
end Pz
end
section
set_option Elab.async false
set_option linter.all false
set_option maxRecDepth 100000
set_option maxHeartbeats 4000000
namespace Pz
open PySem PySem.Spec PyProof.Rows L2
section
variable {X : Cx} {a b c e : Expr} {body : List Stmt} {σ : L2.St} {H : Hp} {pos p : Pos} {D : Ends}
/-- if c: name = ..: then or not, name holds what OK says -/
theorem s_ifS (i : Nat) {v0 : V} {k : Bool} (hσ : σ.set i (some v0) = σ) (OK : V → Hp → Prop) (ok0 : OK v0 H) (okS : ∀ v, ∀ H1 H2, Same H1 H2 → OK v H1 → OK v H2) (hc : CT X c σ H k)
    (hb : k = true → ∀ H1, Same H H1 → ∀ N : L2.St → Hp → Prop, (∀ v H2, Same H1 H2 → OK v H2 → N (σ.set i (some v)) H2) → RSs X body { D with nx := N } σ H1) (q : ∀ v H2, Same H H2 → OK v H2 → D.nx (σ.set i (some v)) H2) : RS X (.If c body [] pos) D σ H :=
  s_if hc (fun ht H1 s1 => hb ht H1 s1 D.nx fun v H2 s2 ok => q v H2 (s1.trans s2) ok) fun _ H1 s1 => ss_nil (by have := q v0 H1 s1 (okS _ _ _ s1 ok0); rw [hσ] at this; exact this)
theorem s_asgE {tg : Expr} (he : RE X e σ H fun v H1 => RG X tg v σ H1 D.nx) (hs : swapsWithSole [tg] e pos.line X.env = pure false := by rfl) (hw : swappedStores [tg] e X.env = pure none := by rfl)
    (h1 : (assignEach [tg] X.env).map (·.2) = [assign tg X.env] := by rfl) : RS X (.Assign [tg] e pos) D σ H := ⟨_, ps_asg re_pe rg_pg hs hw h1, he⟩
def SomeOk (n : Nat) (v : V) (H : Hp) : Prop := ∃ A ks, v = .ref A ∧ H A = some (.lst (nv ks)) ∧ ks.Sublist (List.range n)
theorem someOk_of {n : Nat} {l : List Nat} {v : V} {H0 H : Hp} (h : ∃ a xs, v = .ref a ∧ H0 a = none ∧ H a = some (.lst xs) ∧ Paired (RNat H) (l.map fun d : Nat => d) xs) (hs : l.Sublist (List.range n)) : SomeOk n v H := by
  obtain ⟨a, xs, e1, _, e3, e4⟩ := h
  rw [List.map_id'] at e4
  exact ⟨a, l, e1, by rw [e3, nat_nv e4], hs⟩
theorem someOk_m {n : Nat} : ∀ v, ∀ H1 H2, Same H1 H2 → SomeOk n v H1 → SomeOk n v H2 := fun v H1 H2 s ⟨A, ks, e, h1, h2⟩ => ⟨A, ks, e, s _ _ h1, h2⟩
/-- list(range(n))[-1:] -/
theorem cp_lastOf {n : Nat} {kk : Nat} {kp p1 p2 p3 p4 p5 : Pos} (hm : X.mg "list" = none) (hm2 : X.mg "range" = none) (ha : CV X a σ H (.int (n : Int))) (hn : n ≤ 1000) (hc : X.calm = true := by rfl) (hg : Gl X "list" := by rfl) (hg2 : Gl X "range" := by rfl) (h1 : starEach [a] X.env = (false, eval a X.env) :: starEach [] X.env := by rfl)
    (h2 : starEach [Expr.Call (.Name "range" p1) [a] [] p2] X.env = (false, eval (.Call (.Name "range" p1) [a] [] p2) X.env) :: starEach [] X.env := by rfl) :
    CP X (.Subscript (.Call (.Name "list" p3) [.Call (.Name "range" p1) [a] [] p2] [] p4) (.Slice (some (.UnaryOp .USub (.Constant (.int 1) kk kp) p5)) none none p) pos) σ H (fun v H1 => SomeOk n v H1) := fun H1 s1 Q q =>
  ⟨_, pe_slice sl_list (pe_listRg hc hg hm (prg_1 hg2 hm2 re_pe h1) h2) (po_some re_pe) po_none, ha H1 s1 _ fun v H2 s2 ev => by
    subst ev
    refine ⟨(n : Int), rfl, ⟨by omega, by omega, by omega, by omega, by omega⟩, fun p' hp' => ?_⟩
    refine (cv_neg cv_int : CV X (.UnaryOp .USub (.Constant (.int 1) kk kp) p5) σ (L2.upd H2 p' (.lst (rgV 0 (n : Int)))) (.int (-1))) _ (Same.refl _) _ fun w H3 s3 ew => ?_
    subst ew
    refine ⟨-1, rfl, p', rgV 0 (n : Int), rfl, SqL.of (s3 _ _ upd_same), fun q' hq' => ?_⟩
    have er : rgV 0 (n : Int) = nv (List.range n) := by
      unfold rgV nv
      rw [show ((n : Int) - 0).toNat = n by omega]
      apply List.map_congr_left
      intro i _
      show V.int (0 + (i : Int)) = V.int (i : Int)
      rw [Int.zero_add]
    refine q _ _ (((s2.trans (same_new hp')).trans s3).trans (same_new hq')) ⟨q', ((List.range n).drop (HT.sIx n 0 (some (-1)))).take (n - HT.sIx n 0 (some (-1))), rfl, ?_, (List.take_sublist _ _).trans (List.drop_sublist _ _)⟩
    rw [upd_same, er]
    unfold cutV nv
    rw [List.length_map, List.length_range, HT.sIx_none, List.map_take, List.map_drop]⟩
end
section
variable {P : Program} {w : World} {K : PySem.W.Frag} {mg : Str → Option Value} {base : Heap}
/-! ### _law_covers -/
def spCov (K : PySem.W.Frag) : Sp := fun vs H Q _ => ∃ (R S : Addr) (ns : List Int), vs = [.ref R, .int 5] ∧ RowAt K R S ns H ∧ ns.length ≤ 100 ∧
  ∀ H' t v, JR R S H H' → IsTup IsL H' t v → WfG t → t.length ≤ 5 → Q v H'
abbrev PCov (P : Program) (w : World) (K : PySem.W.Frag) (mg : Str → Option Value) (base : Heap) : Prop := Pm P w K mg base "_law_covers" 2 ["_law_row", "_law_most"] (spCov K)
theorem sc_law_covers : FnScope ["_law_row", "_law_most", "_law_found", "_law_way", "_law_many", "_law_block", "_law_some", "_law_one"] ["_law_row", "_law_most"] (defScope s_law_covers) := ⟨rfl, rfl, rfl, by decide +kernel, rfl, by decide +kernel, by decide +kernel⟩
theorem sub_asc {ks : List Nat} {n : Nat} (h : ks.Sublist (List.range n)) : Pt.Asc ks ∧ ∀ x ∈ ks, x < n := ⟨List.pairwise_lt_range.sublist h, fun x hx => List.mem_range.mp (h.subset hx)⟩
theorem ok_law_covers (T : Tx K mg) (G : PTaken P w K mg base) (D : Df K mg "_law_covers" s_law_covers) : PCov P w K mg base := by
  refine D.pm sc_law_covers (fun _ _ _ _ _ _ us hl => match us, hl with | [_, _], _ => rfl) (fun vs H Q E h => ?_) (fun f cdv A outer s H vs Q E hr h => ?_)
  · obtain ⟨R, S, ns, rfl, _⟩ := h; rfl
  · obtain ⟨R, S, ns, rfl, hR, hn, k⟩ := h
    obtain ⟨i0, x0, y0, hrow0, _⟩ := hR.row
    refine ss_cons (s_asgE ⟨_, pe_tup ra_pa, ra_cons ((cp_lst (A := fun vs _ => vs = []) ca_nil (fun _ _ _ _ e => e) (fun vs _ e => by rw [e]; decide)) H (Same.refl _) _ fun v1 H1 s1 ⟨F, vs1, e1, hF0, hF, e1'⟩ => ?_)⟩)
    subst e1 e1'
    have hFR : F ≠ R := fun e => by rw [e, hrow0] at hF0; cases hF0
    refine ra_cons (re_taken (R := R) (S := S) (Hb := H) (many := 7) G hr hR (hR.jr.s s1) (cv_var 0 rfl) cv_int (by decide) (by decide) hn fun H2 way j2 b2 hway => ?_)
    refine ra_cons ⟨_, pe_op op_add re_pe re_pe, (cv_int : CV _ _ _ H2 (.int 1)) H2 (Same.refl _) _ fun v H3 s3 ev => ?_⟩
    subst ev
    refine re_taken (R := R) (S := S) (Hb := H) (many := 5) G hr hR (j2.s s3) (cv_var 0 rfl) (cv_var 1 rfl) (by decide) (by decide) hn fun H4 r4 j4 b4 hr4 => ⟨1, (r4 : Int), rfl, rfl, ra_nil ⟨by rw [sizeLine_eq]; show 3 ≤ _; decide, fun t ht => g_trip 2 3 4 rfl upd_same (hN := sc_law_covers.nd) ?_⟩⟩
    have hF4 : H4 F = some (.lst []) := b4 _ _ hFR (s3 _ _ (b2 _ _ hFR hF))
    have j5 := j4.s (same_new (o := .tup [.ref F, .int (way : Int), .int (1 + (r4 : Int))]) ht)
    have hF5 : (L2.upd H4 t (.tup [.ref F, .int (way : Int), .int (1 + (r4 : Int))])) F = some (.lst []) := same_new ht _ _ hF4
    obtain ⟨m, hm, hm1, hm5⟩ : ∃ m : Nat, 1 + (r4 : Int) = (m : Int) ∧ 1 ≤ m ∧ m ≤ 5 := ⟨1 + r4, by omega, by omega, by omega⟩
    show RSs _ _ _ [some (.ref R), some (.int 5), some (.ref F), some (.int (way : Int)), some (.int (1 + (r4 : Int))), none, none, none] (L2.upd H4 t (.tup [.ref F, .int (way : Int), .int (1 + (r4 : Int))]))
    generalize L2.upd H4 t (.tup [.ref F, .int (way : Int), .int (1 + (r4 : Int))]) = H5 at j5 hF5
    rw [hm]
    show RSs _ _ _ [some (.ref R), some (.int 5), some (.ref F), some (.int (way : Int)), some (.int (m : Int)), none, none, none] H5
    refine ss_cons (s_for (Kp := fun _ _ => True) (ds := List.range m) (R := RNat) (ci_range1 (n := m) rfl T.range (cv_var 4 rfl) (by omega))
      (fun H6 i σ' H' => ∃ bl so xs ls, σ' = [some (.ref R), some (.int 5), some (.ref F), some (.int (way : Int)), some (.int (m : Int)), bl, so, none] ∧ JR R S H H' ∧ H' F = some (.lst xs) ∧ Paired (IsL H') ls xs ∧ ls.length = i ∧ ∀ (j : Nat) (l : List Nat), ls[j]? = some l → Pt.Asc l ∧ ∀ x ∈ l, x < j)
      (fun H6 s6 => ⟨none, none, [], [], rfl, j5.s s6, s6 _ _ hF5, .nil, rfl, fun j l h => nomatch (show none = some l from h)⟩) (fun _ _ _ _ _ _ _ => trivial)
      (fun H6 i d x σ' H7 H8 s6 hd st s8 rx => ?_) (fun H6 σ' H7 s6 st => ?_))
    · obtain ⟨bl, so, xs, ls, rfl, p1, p2, p3, p4, p5⟩ := st
      have hi : i < m := by
        rcases Nat.lt_or_ge i m with z | z
        · exact z
        · rw [List.getElem?_eq_none (by rw [List.length_range]; exact z)] at hd; cases hd
      rw [List.getElem?_range hi] at hd
      have ed : i = d := Option.some.inj hd
      subst ed
      have rx : x = .int (i : Int) := rx
      subst rx
      have p1' := p1.s s8
      refine ⟨_, pg_name (i := 5) sc_law_covers.nd rfl (Or.inr rfl), ?_⟩
      show RSs _ _ _ [some (.ref R), some (.int 5), some (.ref F), some (.int (way : Int)), some (.int (m : Int)), some (.int (i : Int)), so, none] H8
      refine ss_cons (s_setLcE 6 ⟨_, gName 7, tB1 _ _ _, eB1 _ _ _, [("_law_one", 7)], ri_pi, blkOk_by (own := [("_law_one", 7)]) (N := ["_law_row", "_law_most", "_law_found", "_law_way", "_law_many", "_law_block", "_law_some", "_law_one"]) (sc := defScope s_law_covers) (by decide +kernel),
        (fun _ _ _ _ _ => pg_name (i := 7) sc_law_covers.nd rfl (Or.inl rfl)), (fun s0 H0 C cl fp => ⟨fun pins s σ H Q I h => rts_pts.run pins s σ H Q I (h s0 H0 C cl fp)⟩), (fun s0 H0 C cl fp => ⟨fun pins s σ H Q I h => re_pe.run pins s σ H Q I (h s0 H0 C cl fp)⟩),
        lc_eff (own := [("_law_one", 7)]) (ds := List.range i) (R := R) (S := S) (Hb := H8) (Z := fun n acc => ∃ ks, acc = nv ks ∧ ks.Sublist ((List.range i).take n)) (ci_range1 (n := i) rfl T.range (cv_var 5 rfl) (by omega)) (fun _ => rfl) (fun n acc ⟨ks, e, h⟩ => by
          have := h.length_le
          rw [List.length_take] at this
          rw [e, List.length_map]; omega) (by rw [List.length_range]; omega) (p1'.row hR).jr ⟨[], rfl, List.nil_sublist _⟩ ?_ ?_⟩ sc_law_covers.nd)
      · intro s0 H0 C cl fp n d H' acc Qt hd' hJ ⟨ks, ek, hsub⟩ q
        refine ⟨_, pts_one (pt_cmpR op_eq re_pe re_pe (nomark _)), re_taken (R := R) (S := S) (many := 3) G hr (p1'.row hR) hJ (cv_var 0 rfl) cv_int (by decide) (by decide) hn fun H9 r1 j9 b9 hr1 => ?_⟩
        refine (cv_int : CV _ _ _ H9 (.int 0)) H9 (Same.refl _) _ fun v H10 s10 ev => ?_
        subst ev
        have etake : (List.range i).take (n + 1) = (List.range i).take n ++ [d] := by rw [List.take_add_one, hd']; rfl
        refine ⟨rfl, _, rfl, ?_⟩
        obtain ⟨qf, qt⟩ := q (decide (V.int (r1 : Int) = V.int 0)) H10 (j9.s s10) (But1.trans b9 (But1.of s10))
        cases hb : decide (V.int (r1 : Int) = V.int 0) with
        | false =>
          rw [hb] at qf
          exact qf rfl ⟨ks, ek, by rw [etake]; exact hsub.trans (List.sublist_append_left _ _)⟩
        | true =>
          rw [hb] at qt
          refine qt rfl fun s1 H1 C1 cl1 fp1 Qe qe => ?_
          refine (cv_var 7 rfl : CV _ _ _ H10 (.int (d : Int))) H10 (Same.refl _) _ fun v H11 s11 ev => ?_
          subst ev
          exact qe _ H11 ((j9.s s10).s s11) (But1.of s11) ⟨ks ++ [d], by rw [ek]; exact nv_snoc _ _, by rw [etake]; exact hsub.append (List.Sublist.refl _)⟩
      · intro A acc H9 hJ hA0 hA ⟨ks, ek, hsub⟩
        subst ek
        rw [List.take_length] at hsub
        have hF9 : H9 F = some (.lst xs) := hJ.1 _ _ hFR (s8 _ _ p2)
        have hJ : JR R S H H9 ∧ TS H8 H9 := ⟨⟨But1.trans p1'.1 hJ.1, hJ.2⟩, fun a ys e => hJ.1 _ _ (fun z => by obtain ⟨_, _, _, h1, _⟩ := p1'.2; rw [z, h1] at e; cases e) e⟩
        have hP9 : Paired (IsL H9) ls xs := paired_rt rt_l (TS.trans (Pz.Same.ts s8) hJ.2) p3
        replace hJ := hJ.1
        have hok : SomeOk i (.ref A) H9 := ⟨A, ks, rfl, hA, hsub⟩
        show RSs _ _ _ [some (.ref R), some (.int 5), some (.ref F), some (.int (way : Int)), some (.int (m : Int)), some (.int (i : Int)), some (.ref A), none] H9
        generalize V.ref A = sv at hok
        clear hA hA0 hsub
        refine ss_cons (s_ifS 6 (OK := SomeOk i) (v0 := sv) rfl hok someOk_m (ct_eq (x := .int (way : Int)) (y := .int 0) (cv_var 3 rfl) cv_int rfl) (fun _ H10 s10 N hN => ss_one (s_set 6 (P := fun z H11 => SomeOk i z H11) (CP.imp (cp_lst (A := fun vs _ => vs = []) ca_nil (fun _ _ _ _ e => e) (fun vs _ e => by rw [e]; decide)) fun z H11 _ ⟨A', vs, e1, _, e3, e4⟩ => ⟨A', [], e1, by rw [e3, e4]; rfl, List.nil_sublist _⟩) (fun z H11 s11 hz => hN z H11 s11 hz) (hN := sc_law_covers.nd))) fun sv1 H10 s10 hok1 => ?_)
        refine ss_cons (s_ifS 6 (OK := SomeOk i) (v0 := sv1) rfl hok1 someOk_m (ct_eq (x := .int (way : Int)) (y := .int 1) (cv_var 3 rfl) cv_int rfl) (fun _ H11 s11 N hN => ss_one (s_set 6 (P := fun z H12 => SomeOk i z H12) (cp_lastOf T.list T.range (cv_var 5 rfl) (by omega)) (fun z H12 s12 hz => hN z H12 s12 hz) (hN := sc_law_covers.nd))) fun sv2 H11 s11 hok2 => ?_)
        refine ss_cons (s_ifS 6 (OK := SomeOk i) (v0 := sv2) rfl hok2 someOk_m (ct_eq (x := .int (way : Int)) (y := .int 2) (cv_var 3 rfl) cv_int rfl) (fun _ H12 s12 N hN => ss_one (s_setLc 6 (P := fun z H13 => SomeOk i z H13) (CPL.imp (cpl_lc1 [("_law_one", 7)] (j := 7) (ds := List.range i) (fun d : Nat => decide (2 * (d : Int) < (m : Int)) && decide ((m : Int) ≤ 2 * (i : Int))) (fun d : Nat => d) RNat
          (ci_range1 (n := i) rfl T.range (cv_var 5 rfl) (by omega)) (fun _ _ _ => trivial) rt_nat (by rw [List.length_range]; omega) ?_
          (blkOk_by (own := [("_law_one", 7)]) (N := ["_law_row", "_law_most", "_law_found", "_law_way", "_law_many", "_law_block", "_law_some", "_law_one"]) (sc := defScope s_law_covers) (by decide +kernel)) (fun _ _ _ _ _ => pg_name (i := 7) sc_law_covers.nd rfl (Or.inl rfl)) (fun _ => rfl)) fun z H13 _ h => someOk_of h List.filter_sublist) (fun z H13 s13 hz => hN z H13 s13 hz) sc_law_covers.nd)) fun sv3 H12 s12 hok3 => ?_)
        · intro s0 H0 C cl fp d y H' hd' s14 hy
          have hy : y = .int (d : Int) := hy
          subst hy
          exact ⟨cts_one (ct_chain (f := fun i j => decide (i < j)) (g := fun i j => decide (i ≤ j)) (i := 2 * (d : Int)) (j := (m : Int)) (l := 2 * (i : Int)) op_lt op_le (cv_mul cv_int (cv_var 7 rfl) (.inl ⟨by decide, by decide⟩)) (cv_var 4 rfl) (cv_mul cv_int (cv_var 5 rfl) (.inl ⟨by decide, by decide⟩))), fun _ => cv_var 7 rfl⟩
        refine ss_cons (s_ifS 6 (OK := SomeOk i) (v0 := sv3) rfl hok3 someOk_m (ct_eq (x := .int (way : Int)) (y := .int 3) (cv_var 3 rfl) cv_int rfl) (fun _ H13 s13 N hN => by
          obtain ⟨A3, ks3, e3', hA3, hs3⟩ := someOk_m _ _ _ s13 hok3
          subst e3'
          refine ss_one (s_setLc 6 (P := fun z H14 => SomeOk i z H14) (CPL.imp (cpl_lc1 [("_law_one", 7)] (j := 7) (ds := ks3) (fun d : Nat => decide ((i : Int) - (d : Int) < 3)) (fun d : Nat => d) RNat
            (ci_list ((cv_var 6 rfl).imp fun z H14 s14 e => ⟨A3, _, e, s14 _ _ hA3, nat_paired _⟩) rt_nat.m) (fun _ _ s => s) rt_nat (by have := hs3.length_le; rw [List.length_range] at this; omega) ?_
            (blkOk_by (own := [("_law_one", 7)]) (N := ["_law_row", "_law_most", "_law_found", "_law_way", "_law_many", "_law_block", "_law_some", "_law_one"]) (sc := defScope s_law_covers) (by decide +kernel)) (fun _ _ _ _ _ => pg_name (i := 7) sc_law_covers.nd rfl (Or.inl rfl)) (fun _ => rfl)) fun z H14 _ h => someOk_of h (List.filter_sublist.trans hs3)) (fun z H14 s14 hz => hN z H14 s14 hz) sc_law_covers.nd)
          intro s0 H0 C cl fp d y H' hd' s15 hy
          have hy : y = .int (d : Int) := hy
          subst hy
          exact ⟨cts_one (ct_lt (cv_sub (cv_var 5 rfl) (cv_var 7 rfl)) cv_int), fun _ => cv_var 7 rfl⟩) fun sv4 H13 s13 hok4 => ?_)
        obtain ⟨A4, ks4, e4', hA4, hs4⟩ := hok4
        subst e4'
        have s9 := ((s10.trans s11).trans s12).trans s13
        have hks := sub_asc hs4
        have hl5 := paired_len p3
        refine ss_one (s_append (P := fun q H14 => IsL H14 ks4 q) (xs := xs) (cv_var 2 rfl) (s9 _ _ hF9) (by omega) (CP.imp (cp_tupleOf (R := RNat) (ds := ks4) T.tuple ((cv_var 6 rfl).imp fun z H14 s14 e => ⟨A4, _, e, s14 _ _ hA4, nat_paired _⟩) rt_nat.m) fun z H14 _ h => isL_tup.mpr h) (fun q H14 s14 hq hF14 => ?_))
        have tS : TS H14 (L2.upd H14 F (.lst (xs ++ [q]))) := ts_upd hF14 fun xs q => by cases q
        refine ⟨_, _, xs ++ [q], ls ++ [ks4], rfl, ((hJ.s s9).s s14).d hF0 hFR, upd_same, paired_snoc (paired_rt rt_l (TS.trans (Pz.Same.ts (s9.trans s14)) tS) hP9) (rt_l _ _ _ _ tS hq), by rw [List.length_append, p4]; rfl, fun j l hl => ?_⟩
        rcases Nat.lt_or_ge j ls.length with zj | zj
        · rw [List.getElem?_append_left zj] at hl
          exact p5 j l hl
        · rw [List.getElem?_append_right zj] at hl
          have ej : j - ls.length = 0 := by
            rcases Nat.eq_zero_or_pos (j - ls.length) with h | h
            · exact h
            · rw [List.getElem?_eq_none (show [ks4].length ≤ j - ls.length from h)] at hl; cases hl
          rw [ej] at hl
          have : ks4 = l := Option.some.inj hl
          subst this
          have : j = i := by omega
          subst this
          exact hks
    · obtain ⟨bl, so, xs, ls, rfl, p1, p2, p3, p4, p5⟩ := st
      rw [List.length_range] at p4
      refine ss_one (s_ret (cp_tupleOf (R := IsL) (ds := ls) T.tuple ((cv_var 2 rfl).imp fun z H8 s8 e => ⟨F, xs, e, s8 _ _ p2, paired_rm rt_l.m s8 p3⟩) rt_l.m) fun z H8 s8 hz => k H8 ls z (p1.s s8) hz ⟨fun b => ?_, by omega, by omega⟩ (by omega))
      rcases Nat.lt_or_ge b ls.length with zb | zb
      · rw [List.getD, List.getElem?_eq_getElem zb]
        exact p5 b _ (List.getElem?_eq_getElem zb)
      · rw [List.getD, List.getElem?_eq_none zb]
        exact ⟨List.Pairwise.nil, fun x hx => nomatch hx⟩
end
end Pz
end
section
set_option Elab.async false
set_option linter.all false
set_option maxRecDepth 100000
set_option maxHeartbeats 4000000
namespace Pt
theorem getD_bd {w : List Int} (h : ∀ z ∈ w, -25 ≤ z ∧ z ≤ 25) (n : Nat) : -25 ≤ w.getD n 0 ∧ w.getD n 0 ≤ 25 := by
  rw [List.getD]
  cases e : w[n]? with
  | none => exact ⟨by decide, by decide⟩
  | some z => exact h z (List.mem_of_getElem? e)
theorem dwN_bd {w r : List Int} (hw : ∀ z ∈ w, -25 ≤ z ∧ z ≤ 25) (hr : ∀ z ∈ r, -25 ≤ z ∧ z ≤ 25) : ∀ n, ∀ x ∈ dwN w r n, -50 ≤ x ∧ x ≤ 50
  | 0 => fun x h => nomatch h
  | b + 1 => fun x h => by
    have h1 := getD_bd hw b
    have h2 := getD_bd hr b
    rcases List.mem_append.mp h with h | h
    · exact dwN_bd hw hr b x h
    · rcases List.mem_cons.mp h with h | h
      · rw [h]; omega
      · rw [List.mem_singleton.mp h]; omega
section
variable {t : Tab} {w r : List Int} {ps : List Lot} {b : Int} {ld lo md mo : Lot}
theorem plan_best (h : IsPits t ps) (o : PlanOpt t w r ps b ld lo md mo) {p : Lot} (hp : Best (dbl t) (dwN w r t.length) p) : Plan t (ev p, od p) ∧ Best (dbl t) (dwN w r t.length) (jn t.length (ev p, od p)) := by
  have hpl := plan_of_pit hp.1
  obtain ⟨j1, j2, j3⟩ := pit_of_plan hpl
  refine ⟨hpl, (best_dbl h o).mpr ⟨j1, ?_⟩⟩
  have e := ((best_dbl h o).mp hp).2
  rw [wsum_dbl hp.1] at e
  rw [wsum_dbl j1, j2, j3]
  exact e
theorem bests_ex (tk : TabOk t) (h : IsPits t ps) (o : PlanOpt t w r ps b ld lo md mo) : ∃ bs, IsBest (dbl t) (dwN w r t.length) bs := by
  have hq : ∃ qs, IsPits (dbl t) qs := ⟨_, isPits_of (dbl_ok tk) (List.mergeSort_perm (pitsRaw (dbl t) (dbl t).length) fun a b => decide (a.length ≤ b.length)) ((List.pairwise_mergeSort (fun a b c h1 h2 => by
    simp only [decide_eq_true_eq] at *; omega) (fun a b => by
    simp only [Bool.or_eq_true, decide_eq_true_eq]; omega) _).imp fun h => of_decide_eq_true h)⟩
  obtain ⟨qs, hq⟩ := hq
  obtain ⟨i, hi, ei⟩ := o.d.att
  obtain ⟨p, hp, _, _⟩ := best_of_plan h o hi ei
  refine ⟨_, isBest_of hq (M := b) ⟨p, (hq.mem p).mpr hp.1, ((best_dbl h o).mp hp).2⟩ fun l hl => ?_⟩
  rw [← ((best_dbl h o).mp hp).2]
  exact hp.2 l ((hq.mem l).mp hl)
theorem least_plan_best (tk : TabOk t) (h : IsPits t ps) (o : PlanOpt t w r ps b ld lo md mo) : Plan t (ld, lo) ∧ Best (dbl t) (dwN w r t.length) (jn t.length (ld, lo)) := by
  obtain ⟨bs, hb⟩ := bests_ex tk h o
  cases bs with
  | nil => exact absurd rfl hb.ne
  | cons l bs =>
    have hl := least_of hb (l := l) rfl
    obtain ⟨e1, e2⟩ := least_dbl h o hl
    have := plan_best h o hl.1
    rw [e1, e2] at this
    exact this
theorem great_plan_best (tk : TabOk t) (h : IsPits t ps) (o : PlanOpt t w r ps b ld lo md mo) : Plan t (md, mo) ∧ Best (dbl t) (dwN w r t.length) (jn t.length (md, mo)) := by
  obtain ⟨bs, hb⟩ := bests_ex tk h o
  have hlen : bs.length - 1 < bs.length := by
    cases bs with
    | nil => exact absurd rfl hb.ne
    | cons l bs => show bs.length < bs.length + 1; omega
  have hl := greatest_of hb (l := bs[bs.length - 1]) (List.getElem?_eq_getElem hlen)
  obtain ⟨e1, e2⟩ := greatest_dbl h o hl
  have := plan_best h o hl.1
  rw [e1, e2] at this
  exact this
end
end Pt
namespace Pz
open PySem PySem.Spec PyProof.Rows L2
/-! ### data of plans -/
def planD (i : List Nat × List Nat) : PyData := .tuple [lotD i.1, lotD i.2]
theorem dp_plan {K : PySem.W.Frag} {H : Hp} {i : List Nat × List Nat} {v : V} (h : RPL H i v) : Dp K H v (planD i) := by
  obtain ⟨T, x, y, rfl, h, h1, h2⟩ := h
  exact .tup (SqT.of h) (.cons (dp_lot h1) (.cons (dp_lot h2) .nil))
theorem shaped_plan (i : List Nat × List Nat) : SeqAt.shaped (planD i) = true := by
  unfold SeqAt.shaped planD lotD
  simp only [PyData.canLay0, PyData.canLayAll0, PyData.depth, PyData.depthAll, lay_ints, dep_ints]
  decide
theorem eqv_plan (i : List Nat × List Nat) : PyData.eqv (planD i) (planD i) = true := by
  unfold planD
  simp only [PyData.eqv, PyData.eqvAll, eqv_lot, decide_true, Bool.and_self]
theorem mon_pl (i : List Nat × List Nat) : Mon (fun v H => RPL H i v) := rt_pl.m.mon i
/-! ### what stands beside the row -/
theorem ts_b1 {R : Addr} {Hb H' : Hp} {xs : List V} (e : Hb R = some (.lst xs)) (b : But1 R Hb H') : TS Hb H' := fun a ys h => b _ _ (fun z => by rw [z, e] at h; cases h) h
theorem isG_b1 {C R : Addr} {Hb H' : Hp} {xs : List V} {t : List (List Nat)} {v : V} (e : Hb R = some (.lst xs)) (b : But1 R Hb H') (h : IsG C Hb t v) : IsG C H' t v := by
  obtain ⟨a, dx, vt, e1, h1, h2⟩ := h
  exact ⟨a, dx, vt, e1, b _ _ (fun z => by rw [z, e] at h1; cases h1) h1, rt_t _ _ _ _ (ts_b1 e b) h2⟩
section
variable {P : Program} {w : World} {K : PySem.W.Frag} {mg : Str → Option Value} {base : Heap}
/-! ### law -/
def spLaw (K : PySem.W.Frag) : Sp := fun vs H Q _ => ∃ (a : Addr) (ns : List Int), vs = [.ref a] ∧ SqL K H a (ns.map V.int) ∧ ns.length ≤ 63 ∧ ∀ H', Q (.bl true) H'
theorem sc_law : FnScope ["_law_script", "_law_row", "_law_covers_here", "_law_ground", "_law_many", "_law_turn", "_law_worths_here", "_law_refills", "_law_other", "_law_more", "_law_least", "_law_great", "_law_plan", "_law_pit"] ["_law_script"] (defScope s_law) := ⟨rfl, rfl, rfl, by decide +kernel, rfl, by decide +kernel, by decide +kernel⟩
theorem rowAt_new {R S : Addr} {ns : List Int} {H H1 : Hp} (hS : SqL K H S (iv ns)) (s : Same H H1) (h0 : H R = none) (h1 : H1 R = some (.lst [.ref S, .int 0, .int 1553, .int 0])) : RowAt K R S ns H1 := by
  refine ⟨⟨0, 1553, 0, h1, by decide, by decide, by decide⟩, fun H' b => ?_⟩
  rcases hS with h | h
  · have hne : ∀ o, H S = some o → S ≠ R := fun o e z => by rw [z, h0] at e; cases e
    rcases h with h | ⟨o, h⟩
    · exact .inl (.inl (b _ _ (hne _ h) (s _ _ h)))
    · exact .inl (.inr ⟨o, b _ _ (hne _ h) (s _ _ h)⟩)
  · exact .inr h
theorem funD_ok {x : Str} {st : Stmt} {N ps : List Str} {k : Nat} {sp : Sp} {f : Addr} {fd : FuncData} (F : FunD K x x (defArgs st) (defBody st) (defScope st) [] [] f fd) (S : FnScope N ps (defScope st)) (len : ∀ vs H Q E, sp vs H Q E → vs.length = ps.length)
    (body : ∀ (cdv : Value) (A : Around) (outer : List Env) (s : Shared) (H : Hp) (vs : List V) (Q : VK) (E : XK), Room k (A.deeper (envOfC x (defScope st) s.heap.objs.size f cdv)) → sp vs H Q E →
      RSs (cxOf CX0 P w K mg base N x (defScope st) f cdv A outer s H E).nox (defBody st) { nx := fun _ H' => Q .non H', rt := Q } (start N vs) H) : FnOk P w K mg base CX0 (k + 1) f fd ps sp :=
  F.ok S len fun cdv A outer s H vs Q E hr h => by
    obtain ⟨t, p, q⟩ := body cdv A outer s H vs Q E hr h
    exact ⟨t, p.nox, q⟩
theorem ok_law {f : Addr} {fd : FuncData} (T : Tx K mg) (GI : PInit P w K mg base) (GC : PCov P w K mg base) (GL : PLow P w K mg base) (GD : PDbl P w K mg base) (GW : PDW P w K mg base) (GLP : PLeastP P w K mg base) (GGP : PGreatP P w K mg base) (GBR : PBestR P w K mg base) (GBW : PBestW P w K mg base)
    (GLB : PLeast P w K mg base) (GGB : PGreatB P w K mg base) (GOf : POf P w K mg base) (GAs : PAs P w K mg base) (GPay : PPayments P w K mg base) (GSh : PShows P w K mg base) (GV : PVer P w K mg base) (F : FunD K "law" "law" (defArgs s_law) (defBody s_law) (defScope s_law) [] [] f fd) : FnOk P w K mg base CX0 9 f fd ["_law_script"] (spLaw K) := by
  refine funD_ok F sc_law (fun vs H Q E h => ?_) (fun cdv A outer s H vs Q E hr h => ?_)
  · obtain ⟨S, ns, rfl, _⟩ := h; rfl
  · obtain ⟨S, ns, rfl, hS, hn, k⟩ := h
    have hu : (A.deeper (envOfC "law" (defScope s_law) s.heap.objs.size f cdv)).units + 64 < cLine := by have := hr.un; omega
    refine ss_cons (s_set 1 (P := fun z H1 => ∃ R, z = .ref R ∧ H R = none ∧ H1 R = some (.lst [.ref S, .int 0, .int 1553, .int 0])) (CP.imp (cp_lst (A := fun vs _ => vs = [.ref S, .int 0, .int 1553, .int 0]) (ca_v (cv_var 0 rfl) (ca_v cv_int (ca_v cv_int (ca_v cv_int ca_nil)))) (fun _ _ _ _ e => e) (fun vs _ e => by rw [e]; show 4 ≤ 1000; decide)) fun z H1 _ ⟨t, vs, e, h0, h1, e'⟩ => ⟨t, e, h0, by rw [h1, e']⟩) (fun z H1 s1 ⟨R, ez, hR0, hR1⟩ => ?_) (hN := sc_law.nd))
    subst ez
    have hR : RowAt K R S ns H1 := rowAt_new hS s1 hR0 hR1
    refine ss_cons (s_setE 2 (re_call GC (hr.mono (by decide)) (ca_v (cv_var 1 rfl) (ca_v cv_int ca_nil)) (fun vs H2 s2 e => ⟨R, S, ns, e, hR.m s2, by omega, fun H3 t cv j3 hcv wf h5 => ?_⟩)) (hN := sc_law.nd))
    have j3 : JR R S H1 H3 := ⟨But1.trans (But1.of s2) j3.1, j3.2⟩
    have hR3 : RowAt K R S ns H3 := j3.row hR
    have h5 : t.length ≤ 5 := h5
    show RSs _ _ _ [some (.ref S), some (.ref R), some cv, none, none, none, none, none, none, none, none, none, none, none] H3
    refine ss_cons (s_par 3 4 (A := fun vs H4 => ∃ g, vs = [g, .int (t.length : Int)] ∧ IsG (CG K) H4 t g) (CA.imp (ca_cons (Pa := fun g H4 => IsG (CG K) H4 t g) (cp_mkG T GI (hr.mono (by decide)) wf ((cv_var 2 rfl).imp fun z H4 s4 e => by subst e; exact isTup_m hcv s4)) (ca_v (cv_len (n := t.length) T.len (cv_var 2 rfl) fun z H4 s4 e => by subst e; exact (isTup_m hcv s4).sized) ca_nil) (mon_g _ _)) fun vs H4 _ ⟨g, r, e1, h1, e2⟩ => ⟨g, by rw [e1, e2], h1⟩)
      (fun vs H4 s4 ⟨g, e, hg⟩ => ⟨g, _, e, ?_⟩) (hN := sc_law.nd))
    have hR4 : RowAt K R S ns H4 := hR3.m s4
    obtain ⟨i4, x4, y4, hrow4, _⟩ := hR4.row
    show RSs _ _ _ [some (.ref S), some (.ref R), some cv, some g, some (.int (t.length : Int)), none, none, none, none, none, none, none, none, none] H4
    clear hS hR1 hR0 hR j3 hR3 hcv s4 s1 s2
    refine ss_cons (s_for (Kp := fun _ _ => True) (ds := List.range 2) (R := RNat) (ci_range1 (n := 2) rfl T.range cv_int (by decide))
      (fun H5 i σ' H' => ∃ a b c d e f1 g1 h1 i1, σ' = [some (.ref S), some (.ref R), some cv, some g, some (.int (t.length : Int)), a, b, c, d, e, f1, g1, h1, i1] ∧ JR R S H4 H')
      (fun H5 s5 => ⟨none, none, none, none, none, none, none, none, none, rfl, hR4.jr.s s5⟩) (fun _ _ _ _ _ _ _ => trivial)
      (fun H5 i d x σ' H6 H7 s5 hd st s7 rx => ?_) (fun H5 σ' H6 s5 st => ?_))
    · obtain ⟨a5, b5, c5, d5, e5, f5, g5, h5', i5, rfl, j6⟩ := st
      have j7 := j6.s s7
      refine ⟨_, pg_name (i := 5) sc_law.nd rfl (Or.inl rfl), ?_⟩
      refine ss_cons (s_parE 6 7 (ra_cons (re_call GL (hr.mono (by decide)) (ca_v (cv_var 1 rfl) (ca_v (cv_var 4 rfl) ca_nil)) (fun vs H8 s8 e => ⟨R, S, ns, t.length, e, (j7.s s8).row hR4, by omega, by omega, fun H9 wt v9 j9 hw9 lw bw => ?_⟩)))  (hN := sc_law.nd))
      refine ra_cons (re_call GL (hr.mono (by decide)) (ca_v (cv_var 1 rfl) (ca_v (cv_var 4 rfl) ca_nil)) (fun vs' Ha sa ea => ⟨R, S, ns, t.length, ea, ?_, by omega, by omega, fun Hb rf vb jb hwb lr br => ra_nil ⟨v9, vb, rfl, ?_⟩⟩))
      · exact (JR.s ⟨But1.trans (j7.s s8).1 j9.1, j9.2⟩ sa).row hR4
      have j9' : JR R S H4 H9 := ⟨But1.trans (j7.s s8).1 j9.1, j9.2⟩
      obtain ⟨i9, x9, y9, hrow9, _⟩ := j9'.2
      have jB : JR R S H4 Hb := ⟨But1.trans (j9'.s sa).1 jb.1, jb.2⟩
      have hw : IsW Hb wt v9 := rt_w _ _ _ _ (ts_b1 hrow9 (But1.trans (But1.of sa) jb.1)) hw9
      have hgB : IsG (CG K) Hb t g := isG_b1 hrow4 jB.1 hg
      show RSs _ _ _ [some (.ref S), some (.ref R), some cv, some g, some (.int (t.length : Int)), some x, some v9, some vb, d5, e5, f5, g5, h5', i5] Hb
      clear hw9 j9 j9' jb hrow9 sa s8 s7 j6 j7 a5 b5 c5
      have bd : ∀ z ∈ Pt.dwN wt rf t.length, -50 ≤ z ∧ z ≤ 50 := Pt.dwN_bd bw br t.length
      have okw : WOk t.length wt := ⟨lw, fun z hz => by have := bw z hz; omega, fun z hz => by have := bw z hz; omega⟩
      have okr : WOk t.length rf := ⟨lr, fun z hz => by have := br z hz; omega, fun z hz => by have := br z hz; omega⟩
      have hgwr : ∀ {Hc : Hp}, Same Hb Hc → aGWR (CG K) (t, wt, rf) [g, v9, vb] Hc := fun sc => ⟨g, v9, vb, rfl, hgB.m sc, hw.m sc, hwb.m sc, wf, okw, okr⟩
      refine ss_cons (s_par 8 9 (A := fun vs Hc => ∃ o m, vs = [o, m] ∧ IsG (CG K) Hc (Pt.dbl t) o ∧ IsW Hc (Pt.dwN wt rf t.length) m) (CA.imp (ca_cons (Pa := fun o Hc => rDbl (CG K) t o Hc) (cp_callI GD t (hr.mono (by decide)) (ca_v (cv_var 3 rfl) ca_nil) (fun vs Hc sc e => ⟨_, e, hgB.m sc, wf, h5⟩)) (ca_one (P := fun m Hc => rDW (t, wt, rf) m Hc) (cp_callI GW (t, wt, rf) (hr.mono (by decide)) (ca_v (cv_var 3 rfl) (ca_v (cv_var 6 rfl) (ca_v (cv_var 7 rfl) ca_nil))) (fun vs Hc sc e => ⟨by rw [e]; exact hgwr sc, h5, bd⟩))) (mon_g _ _)) fun vs Hc _ ⟨o, r, e1, h1, m, e2, h2⟩ => ⟨o, m, by rw [e1, e2], h1, h2⟩)
        (fun vs Hc sc ⟨o, m, e, ho, hm⟩ => ⟨o, m, e, ?_⟩) (hN := sc_law.nd))
      show RSs _ _ _ [some (.ref S), some (.ref R), some cv, some g, some (.int (t.length : Int)), some x, some v9, some vb, some o, some m, f5, g5, h5', i5] Hc
      have wfd := wfg_dbl wf h5
      have okd : WOk (Pt.dbl t).length (Pt.dwN wt rf t.length) := dw_ok bd
      have hgw : ∀ {Hd : Hp}, Same Hc Hd → aGW (CG K) (Pt.dbl t, Pt.dwN wt rf t.length) [o, m] Hd := fun sd => ⟨o, m, rfl, ho.m sd, hm.m sd, wfd, okd⟩
      refine ss_cons (s_par 10 11 (A := fun vs Hd => ∃ l q, vs = [l, q] ∧ rLP (t, wt, rf) l Hd ∧ rGP (t, wt, rf) q Hd) (CA.imp (ca_cons (Pa := fun l Hd => rLP (t, wt, rf) l Hd) (cp_callI GLP (t, wt, rf) (hr.mono (by decide)) (ca_v (cv_var 3 rfl) (ca_v (cv_var 6 rfl) (ca_v (cv_var 7 rfl) ca_nil))) (fun vs Hd sd e => by rw [e]; exact hgwr (sc.trans sd)))
        (ca_one (P := fun q Hd => rGP (t, wt, rf) q Hd) (cp_callI GGP (t, wt, rf) (hr.mono (by decide)) (ca_v (cv_var 3 rfl) (ca_v (cv_var 6 rfl) (ca_v (cv_var 7 rfl) ca_nil))) (fun vs Hd sd e => by rw [e]; exact hgwr (sc.trans sd)))) (fun v H H' s ⟨bv, ld, lo, md, mo, ps, h1, h2, h3⟩ => ⟨bv, ld, lo, md, mo, ps, rt_pl.m _ _ _ _ s h1, h2, h3⟩)) fun vs Hd _ ⟨l, r, e1, h1, q, e2, h2⟩ => ⟨l, q, by rw [e1, e2], h1, h2⟩)
        (fun vs Hd sd ⟨l, q, e, ⟨bv2, ld, lo, md2, mo2, ps2, hl, hp2, o2⟩, ⟨bv3, ld3, lo3, md, mo, ps3, hq, hp3, o3⟩⟩ => ⟨l, q, e, ?_⟩) (hN := sc_law.nd))
      show RSs _ _ _ [some (.ref S), some (.ref R), some cv, some g, some (.int (t.length : Int)), some x, some v9, some vb, some o, some m, some l, some q, h5', i5] Hd
      have hp2 : Pt.IsPits t ps2 := hp2
      have o2 : Pt.PlanOpt t wt rf ps2 bv2 ld lo md2 mo2 := o2
      have hp3 : Pt.IsPits t ps3 := hp3
      have o3 : Pt.PlanOpt t wt rf ps3 bv3 ld3 lo3 md mo := o3
      have scd := sc.trans sd
      -- best_refill(..) != best_worth(..)
      refine ss_cons (s_guard (ct_cmp op_ne (Pa := fun z He => rBR (t, wt, rf) z He) (Pb := fun z He => rWorth (Pt.dbl t, Pt.dwN wt rf t.length) z He) (cp_callI GBR (t, wt, rf) (hr.mono (by decide)) (ca_v (cv_var 3 rfl) (ca_v (cv_var 6 rfl) (ca_v (cv_var 7 rfl) ca_nil))) (fun vs He se e => by rw [e]; exact hgwr (scd.trans se)))
        (cp_callI GBW (Pt.dbl t, Pt.dwN wt rf t.length) (hr.mono (by decide)) (ca_v (cv_var 8 rfl) (ca_v (cv_var 9 rfl) ca_nil)) (fun vs He se e => by rw [e]; exact hgw (sd.trans se))) (fun v H H' s h => h) (nomark _)
        fun x1 y1 He se ⟨bv, ld1, lo1, md1, mo1, ps1, e1, hp1, o1⟩ ⟨p, hb, e2⟩ Q' k' => ?_) fun He se => ?_)
      · have hp1 : Pt.IsPits t ps1 := hp1
        have o1 : Pt.PlanOpt t wt rf ps1 bv ld1 lo1 md1 mo1 := o1
        have hb : Pt.Best (Pt.dbl t) (Pt.dwN wt rf t.length) p := hb
        have e3 : Pt.wsum (Pt.dwN wt rf t.length) p = bv := ((Pt.best_dbl hp1 o1).mp hb).2
        have e2 : y1 = .int (Pt.wsum (Pt.dwN wt rf t.length) p) := e2
        subst e1 e2
        refine ⟨rfl, ?_⟩
        rw [e3, decide_eq_true rfl]
        exact k' _ (Same.refl _)
      -- of_pit(.., least_best(..)) != least or ..
      have scde := scd.trans se
      have sde := sd.trans se
      refine ss_cons (s_guard (CW.ct (cw_or (k := false) (ct_cmp (op_neD hu) (Pa := fun z Hf => RPL Hf (ld, lo) z) (Pb := fun z Hf => RPL Hf (ld, lo) z)
          (cp_call GOf (hr.mono (by decide)) (A := fun vs Hf => ∃ r, vs = g :: r ∧ ∃ u, r = [u] ∧ rLeast (Pt.dbl t, Pt.dwN wt rf t.length) u Hf) (ca_vx (cv_var 3 rfl) (ca_one (cp_callI GLB (Pt.dbl t, Pt.dwN wt rf t.length) (hr.mono (by decide)) (ca_v (cv_var 8 rfl) (ca_v (cv_var 9 rfl) ca_nil)) (fun vs Hf sf e => by rw [e]; exact hgw (sde.trans sf)))))
            (fun vs Hf sf ⟨r, e1, u, e2, p, hp, hu'⟩ Q' k' => ⟨(t, p), ⟨g, u, by rw [e1, e2], hgB.m (scde.trans sf), hu', wf, h5, hp.1.1⟩, fun v Hg sg h => k' v Hg sg (by
              obtain ⟨q1, q2⟩ := Pt.least_dbl hp2 o2 hp
              have h : RPL Hg (Pt.ev p, Pt.od p) v := h
              rw [q1, q2] at h
              exact h)⟩))
          ((cv_var 10 rfl).imp fun z Hf sf e => by subst e; exact rt_pl.m _ _ _ _ (se.trans sf) hl) (mon_pl _) (nomark _) fun x1 y1 Hf sf h1 h2 Q' k' => ⟨planD (ld, lo), planD (ld, lo), dp_plan h1, dp_plan h2, shaped_plan _, shaped_plan _, by rw [eqv_plan]; exact k' _ (Same.refl _)⟩)
        fun _ => cw_or1 (ct_cmp (op_neD hu) (Pa := fun z Hf => RPL Hf (md, mo) z) (Pb := fun z Hf => RPL Hf (md, mo) z)
          (cp_call GOf (hr.mono (by decide)) (A := fun vs Hf => ∃ r, vs = g :: r ∧ ∃ u, r = [u] ∧ rGreat (Pt.dbl t, Pt.dwN wt rf t.length) u Hf) (ca_vx (cv_var 3 rfl) (ca_one (cp_callI GGB (Pt.dbl t, Pt.dwN wt rf t.length) (hr.mono (by decide)) (ca_v (cv_var 8 rfl) (ca_v (cv_var 9 rfl) ca_nil)) (fun vs Hf sf e => by rw [e]; exact hgw (sde.trans sf)))))
            (fun vs Hf sf ⟨r, e1, u, e2, p, hp, hu'⟩ Q' k' => ⟨(t, p), ⟨g, u, by rw [e1, e2], hgB.m (scde.trans sf), hu', wf, h5, hp.1.1⟩, fun v Hg sg h => k' v Hg sg (by
              obtain ⟨q1, q2⟩ := Pt.greatest_dbl hp3 o3 hp
              have h : RPL Hg (Pt.ev p, Pt.od p) v := h
              rw [q1, q2] at h
              exact h)⟩))
          ((cv_var 11 rfl).imp fun z Hf sf e => by subst e; exact rt_pl.m _ _ _ _ (se.trans sf) hq) (mon_pl _) (nomark _) fun x1 y1 Hf sf h1 h2 Q' k' => ⟨planD (md, mo), planD (md, mo), dp_plan h1, dp_plan h2, shaped_plan _, shaped_plan _, by rw [eqv_plan]; exact k' _ (Same.refl _)⟩))) fun Hf sf => ?_)
      have seF := se.trans sf
      have sdF := sd.trans seF
      have scF := sc.trans sdF
      have hall : ∀ i ∈ [(ld, lo), (md, mo)], Pt.Plan t i ∧ Pt.Best (Pt.dbl t) (Pt.dwN wt rf t.length) (Pt.jn t.length i) := fun i hi => by
        rcases List.mem_cons.mp hi with hi | hi
        · rw [hi]; exact Pt.least_plan_best wf.ok hp2 o2
        · rw [List.mem_singleton.mp hi]; exact Pt.great_plan_best wf.ok hp3 o3
      refine ss_one (s_for (Kp := Same) (ds := [(ld, lo), (md, mo)]) (R := RPL) (ci_list (CP.imp (cp_lst (A := fun vs _ => vs = [l, q]) (ca_v (cv_var 10 rfl) (ca_v (cv_var 11 rfl) ca_nil)) (fun _ _ _ _ e => e) (fun vs _ e => by rw [e]; show 2 ≤ 1000; decide)) fun z Hg sg ⟨tt, vs, e1, _, e2, e3⟩ => ⟨tt, vs, e1, e2, by rw [e3]; exact .cons (rt_pl.m _ _ _ _ (seF.trans sg) hl) (.cons (rt_pl.m _ _ _ _ (seF.trans sg) hq) .nil)⟩) rt_pl.m)
        (fun Hg i σ' H' => ∃ a b, σ' = [some (.ref S), some (.ref R), some cv, some g, some (.int (t.length : Int)), some x, some v9, some vb, some o, some m, some l, some q, a, b] ∧ Same Hg H')
        (fun Hg sg => ⟨_, _, rfl, Same.refl _⟩) (fun Hg i σ' H' _ _ ⟨_, _, _, h⟩ => h) (fun Hg i pl y σ' Hh Hi sg hd' st si hy => ?_) (fun Hg σ' Hh sg st => ?_))
      · obtain ⟨a12, b13, rfl, sh⟩ := st
        have hpl := hall pl (List.mem_of_getElem? hd')
        have sFi := (sg.trans sh).trans si
        obtain ⟨Ty, y1, y2, ey, hTy, hy1, hy2⟩ := hy
        subst ey
        refine ⟨_, pg_name (i := 12) sc_law.nd rfl (Or.inl rfl), ?_⟩
        refine ss_cons (s_set 13 (P := fun z Hj => IsL Hj (Pt.jn t.length pl) z) (CP.imp (cp_callI GAs (t, pl) hr (ca_v (cv_var 3 rfl) (ca_v (cv_ixRaw (xs := [y1, y2]) ((cv_var 12 rfl).imp fun z Hj sj e => ⟨Ty, e, sj _ _ hTy⟩) cv_int rfl) (ca_v (cv_ixRaw (xs := [y1, y2]) ((cv_var 12 rfl).imp fun z Hj sj e => ⟨Ty, e, sj _ _ hTy⟩) cv_int rfl) ca_nil)))
          (fun vs Hj sj e => ⟨⟨g, y1, y2, e, hgB.m ((scF.trans sFi).trans sj), hy1.m sj, hy2.m sj, wf, hpl.1⟩, h5⟩)) fun z Hj _ h => h) (fun pv Hj sj hpv => ?_) (hN := sc_law.nd))
        have sFj := sFi.trans sj
        have sdj := sdF.trans sFj
        refine ss_one (s_guard (CW.ct (cw_or (k := false) (CT.to (ct_not (k := true) (ct_val (CP.imp (cp_call GSh (hr.mono (by decide)) (P := fun z _ => z = .bl true) (A := fun vs Hk => ∃ r, vs = o :: r ∧ ∃ r2, r = m :: r2 ∧ ∃ r3, r2 = pv :: r3 ∧ ∃ u, r3 = [u] ∧ rPays (Pt.dbl t, Pt.dwN wt rf t.length) u Hk)
            (ca_vx (cv_var 8 rfl) (ca_vx (cv_var 9 rfl) (ca_vx (cv_var 13 rfl) (ca_one (cp_callI GPay (Pt.dbl t, Pt.dwN wt rf t.length) (hr.mono (by decide)) (ca_v (cv_var 8 rfl) (ca_v (cv_var 9 rfl) ca_nil)) (fun vs Hk sk e => by rw [e]; exact hgw (sdj.trans sk)))))))
            (fun vs Hk sk ⟨r, e1, r2, e2, r3, e3, u, e4, es, hes, hu', hz⟩ Q' k' => ⟨(Pt.dbl t, Pt.dwN wt rf t.length, Pt.jn t.length pl, es), ⟨o, m, pv, u, by rw [e1, e2, e3, e4], ho.m (sdj.trans sk), hm.m (sdj.trans sk), hpv.m sk, hu', wfd, okd, hz, hes, hpl.2⟩, k'⟩)) fun z Hk _ e => e))) rfl)
          fun _ => cw_or1 (CT.to (ct_ne (x := .str "best") (y := .str "best") (cp_ixRawEx (Z := fun xs _ => ∃ y, xs = [.str "best", y]) (j := 0) (CP.imp (cp_callI GV (Pt.dbl t, Pt.dwN wt rf t.length, Pt.jn t.length pl) (hr.mono (by decide)) (ca_v (cv_var 8 rfl) (ca_v (cv_var 9 rfl) (ca_v (cv_var 13 rfl) ca_nil)))
            (fun vs Hk sk e => ⟨o, m, pv, e, ho.m (sdj.trans sk), hm.m (sdj.trans sk), hpv.m sk, wfd, okd, hpl.2⟩)) fun z Hk _ ⟨Tz, yz, e1, e2⟩ => ⟨Tz, _, e1, e2, yz, rfl⟩) cv_int (fun _ _ _ _ z => z) (fun xs _ ⟨y, e⟩ => ⟨.str "best", by rw [e]; rfl, rfl⟩)) cv_str rfl) (by decide)))) fun Hk sk => ?_)
        exact ⟨_, _, rfl, ((sh.trans si).trans sj).trans sk⟩
      · obtain ⟨a12, b13, rfl, sh⟩ := st
        exact ⟨_, _, _, _, _, _, _, _, _, rfl, jB.s (scF.trans (sg.trans sh))⟩
    · exact ss_one (s_ret (P := fun v _ => v = .bl true) cv_bl fun v H7 _ ev => by subst ev; exact k H7)
end
end Pz
end
section
set_option Elab.async false
set_option linter.all false
set_option maxRecDepth 100000
set_option maxHeartbeats 0
namespace Pz
open PySem PySem.Spec PyProof.Rows L2
section
variable {K : PySem.W.Frag} {h : Heap} {mg : Str → Option Value}
theorem df_of (X : K.In h) (G : h.Ns mainGlobals mg) (c : He.SaysD fa fn K) (i j : Nat) {x : Str} {st : Stmt} (h1 : fn[i]? = some ⟨(x, none), x, x, defArgs st, defBody st, defScope st, [], []⟩ := by rfl) (h2 : fa[j]? = some (.glo x) := by rfl) : Df K mg x st := by
  obtain ⟨fd, F⟩ := c.def_ i h1
  exact ⟨_, fd, He.glo_ok X G (c.fact j h2), F⟩
theorem dfM_of (c : He.SaysD fa fn K) (i : Nat) {C m qual : Str} {st : Stmt} (h1 : fn[i]? = some ⟨(C, some m), m, qual, defArgs st, defBody st, defScope st, [], []⟩ := by rfl) : DfM K (He.ga K C) m qual st (He.ma K (He.ga K C) m) := by
  obtain ⟨fd, F⟩ := c.def_ i h1
  exact ⟨fd, F⟩
theorem isiB_ok (hi : isiB K = true) : PySem.W.findIn K (.ref (CG K)) "__class__" = some (some (.builtin "object.__class__")) ∧ PySem.W.specialIn K (.builtin "object.__class__") "__get__" = some (some (.builtin "getset_descriptor.__get__")) ∧
    PySem.W.takesIn K (.builtin "object.__class__") = some true ∧ PySem.W.mroIn K (CG K) (.type "object") = some true := by
  unfold isiB at hi
  rw [Bool.and_eq_true, Bool.and_eq_true, Bool.and_eq_true] at hi
  obtain ⟨h1, h2, h3, h4⟩ := hi
  exact ⟨He.eqO_ok h1, He.eqO_ok h2, of_decide_eq_true h3, of_decide_eq_true h4⟩
theorem tx_of (X : K.In h) (G : h.Ns mainGlobals mg) (c : He.SaysD fa fn K) (hi : isiB K = true) : Tx K mg where
  len := He.free_ok X G (c.fact 53 (f := .free "len") rfl)
  isi := He.free_ok X G (c.fact 54 (f := .free "isinstance") rfl)
  int := He.free_ok X G (c.fact 55 (f := .free "int") rfl)
  bool := He.free_ok X G (c.fact 56 (f := .free "bool") rfl)
  tuple := He.free_ok X G (c.fact 57 (f := .free "tuple") rfl)
  all := He.free_ok X G (c.fact 58 (f := .free "all") rfl)
  range := He.free_ok X G (c.fact 59 (f := .free "range") rfl)
  enum := He.free_ok X G (c.fact 60 (f := .free "enumerate") rfl)
  list := He.free_ok X G (c.fact 61 (f := .free "list") rfl)
  sorted := He.free_ok X G (c.fact 62 (f := .free "sorted") rfl)
  set := He.free_ok X G (c.fact 63 (f := .free "set") rfl)
  sum := He.free_ok X G (c.fact 64 (f := .free "sum") rfl)
  max := He.free_ok X G (c.fact 65 (f := .free "max") rfl)
  min := He.free_ok X G (c.fact 66 (f := .free "min") rfl)
  zip := He.free_ok X G (c.fact 67 (f := .free "zip") rfl)
  mostB := He.int_ok X G (c.fact 68 (f := .int "MOST_BLOCKS" 10) rfl)
  mostW := He.int_ok X G (c.fact 69 (f := .int "MOST_WORTH" 50) rfl)
  mostD := He.int_ok X G (c.fact 70 (f := .int "MOST_DOUBLED" 5) rfl)
  best := He.str_ok X G (c.fact 71 (f := .str "BEST" "best") rfl)
  gG := He.glo_ok X G (c.fact 49 (f := .glo "Ground") rfl)
  gU := He.glo_ok X G (c.fact 50 (f := .glo "Purses") rfl)
  cG := He.cls_ok (c.fact 72 (f := .cls "Ground") rfl)
  cU := He.cls_ok (c.fact 73 (f := .cls "Purses") rfl)
  mkG := He.mkr_ok (c.fact 74 (f := .mkr "Ground") rfl)
  mkU := He.mkr_ok (c.fact 75 (f := .mkr "Purses") rfl)
  nT := He.noat_ok (c.fact 76 (f := .noat "Ground" "table") rfl)
  mL := He.meth_ok (c.fact 77 (f := .meth "Ground" "__len__") rfl)
  nTold := He.noat_ok (c.fact 78 (f := .noat "Purses" "told") rfl)
  nLeft := He.noat_ok (c.fact 79 (f := .noat "Purses" "left") rfl)
  nFirst := He.noat_ok (c.fact 80 (f := .noat "Purses" "first") rfl)
  nGiven := He.noat_ok (c.fact 81 (f := .noat "Purses" "given") rfl)
  mB := He.meth_ok (c.fact 82 (f := .meth "Purses" "beside") rfl)
  mW := He.meth_ok (c.fact 83 (f := .meth "Purses" "way") rfl)
  mP := He.meth_ok (c.fact 84 (f := .meth "Purses" "pay") rfl)
  i1 := (isiB_ok hi).1
  i2 := (isiB_ok hi).2.1
  i3 := (isiB_ok hi).2.2.1
  i4 := (isiB_ok hi).2.2.2
end
theorem facts {P : Program} {w : World} {K : PySem.W.Frag} {h : Heap} {mg : Str → Option Value} {f : Addr} (X : K.In h) (G : h.Ns mainGlobals mg) (hfa : mg ("law" : Str) = some (.ref f)) (c : He.SaysD fa fn K) (hi : isiB K = true) :
    ∃ fd : FuncData, (∀ (s : Shared) (v : Value), BindsTo s fd ⟨[v], []⟩ [("_law_script", v)]) ∧ ∀ base : Heap, K.In base → base.Ns mainGlobals mg → FnOk P w K mg base CX0 9 f fd ["_law_script"] (spLaw K) := by
  obtain ⟨fd, F⟩ := c.def_ 54 (d := d_law) rfl
  have e := hfa.symm.trans (He.glo_ok X G (c.fact 48 (f := .glo "law") rfl))
  cases e
  have b := FunD.bindsA (ps := ["_law_script"]) F fun _ _ _ _ _ _ us hl => match us, hl with | [_], _ => rfl
  refine ⟨fd, fun s v => b s [v] rfl, fun base _ _ => ?_⟩
  have T : Tx K mg := tx_of X G c hi
  have p_from : PFrom P w K mg base := ok_is_from T (df_of X G c 0 0)
  have p_rises : PRises P w K mg base := ok_rises T (df_of X G c 1 1)
  have p_cover : PCover P w K mg base := ok_is_cover T p_from p_rises (df_of X G c 2 2)
  have p_init : PInit P w K mg base := ok_G_init T p_cover (dfM_of c 3)
  have p_len : LenG P w K mg base (CG K) := ok_len T (dfM_of c 4)
  have p_needG : PNeedG P w K mg base := ok_need_ground T (df_of X G c 5 3)
  have p_block : PBlock P w K mg base := ok_is_block T p_len p_from (df_of X G c 6 4)
  have p_covers : PCovers P w K mg base := ok_covers_of T (df_of X G c 7 5)
  have p_isLot : PIsLot P w K mg base := ok_is_lot T p_block p_rises (df_of X G c 8 6)
  have p_needLot : PNeedLot P w K mg base := ok_need_lot T p_needG p_isLot (df_of X G c 9 7)
  have p_isFull : PIsFull P w K mg base := ok_is_full T (df_of X G c 10 8)
  have p_needPit : PNeedPit P w K mg base := ok_need_pit T p_needLot p_isFull (df_of X G c 11 9)
  have p_sized : PSized P w K mg base := ok_sized T (df_of X G c 12 10)
  have p_pits : PPits P w K mg base := ok_pits_of T p_len p_sized (df_of X G c 13 11)
  have p_needW : PNeedW P w K mg base := ok_need_worths T p_needG p_len p_from (df_of X G c 14 12)
  have p_sum : PSum P w K mg base := ok_sum_of T (df_of X G c 15 13)
  have p_great : PGreat P w K mg base := ok_greatest_of T p_sum (df_of X G c 16 14)
  have p_bests : PBests P w K mg base := ok_best_pits p_pits p_great p_sum (df_of X G c 17 15)
  have p_bestW : PBestW P w K mg base := ok_best_worth p_needW p_pits p_great (df_of X G c 18 16)
  have p_least : PLeast P w K mg base := ok_least_best p_needW p_bests (df_of X G c 19 17)
  have p_greatB : PGreatB P w K mg base := ok_greatest_best p_needW p_bests (df_of X G c 20 18)
  have p_needR : PNeedR P w K mg base := ok_need_refills T p_len p_from (df_of X G c 21 19)
  have p_needB : PNeedB P w K mg base := ok_need_both p_needW p_needR (df_of X G c 22 20)
  have p_lies : PLies P w K mg base := ok_lies_in T (df_of X G c 23 21)
  have p_without : PWithout P w K mg base := ok_without T (df_of X G c 24 22)
  have p_needP : PNeedP P w K mg base := ok_need_plan p_needPit p_lies (df_of X G c 25 23)
  have p_common : PCommon P w K mg base := ok_common T (df_of X G c 26 24)
  have p_tog : PTog P w K mg base := ok_together T (df_of X G c 27 25)
  have p_open : POpen P w K mg base := ok_open_pits T p_pits p_sum p_without p_common p_tog (df_of X G c 28 26)
  have p_plans : PPlans P w K mg base := ok_best_plans T p_open p_sum p_lies p_common p_tog (df_of X G c 29 27)
  have p_bestR : PBestR P w K mg base := ok_best_refill p_needB p_plans (df_of X G c 30 28)
  have p_leastP : PLeastP P w K mg base := ok_least_plan p_needB p_plans (df_of X G c 31 29)
  have p_greatP : PGreatP P w K mg base := ok_greatest_plan p_needB p_plans (df_of X G c 32 30)
  have p_needS : PNeedS P w K mg base := ok_need_small T p_needG p_len (df_of X G c 33 31)
  have p_dblOf : PDblOf P w K mg base := ok_doubled_of T p_init (df_of X G c 34 32)
  have p_dbl : PDbl P w K mg base := ok_doubled p_needS p_dblOf (df_of X G c 35 33)
  have p_dw : PDW P w K mg base := ok_doubled_worths T p_needB p_needS (df_of X G c 36 34)
  have p_as : PAs P w K mg base := ok_as_pit T p_needP p_needS (df_of X G c 37 35)
  have p_of : POf P w K mg base := ok_of_pit T p_needS p_dblOf p_needPit (df_of X G c 38 36)
  have p_uInit : PUInit P w K mg base := ok_P_init T p_covers (dfM_of c 39)
  have p_beside : PBeside P w K mg base := ok_P_beside T (dfM_of c 40)
  have p_way : PWay P w K mg base := ok_P_way T p_beside (dfM_of c 41)
  have p_pay : PPay P w K mg base := ok_P_pay T (dfM_of c 42)
  have p_gPay : PGPay P w K mg base := ok_greatest_payments T p_uInit p_way p_pay (df_of X G c 43 37)
  have p_payments : PPayments P w K mg base := ok_payments p_needW p_gPay (df_of X G c 44 38)
  have p_isPay : PIsPay P w K mg base := ok_is_payment T p_block p_covers (df_of X G c 45 39)
  have p_sums : PSums P w K mg base := ok_sums_of T p_len (df_of X G c 46 40)
  have p_all : PAll P w K mg base := ok_are_all T p_isPay p_sums (df_of X G c 47 41)
  have p_prv : PPrv P w K mg base := ok_proves T p_all p_sums (df_of X G c 48 42)
  have p_shows : PShows P w K mg base := ok_shows_best p_needW p_needPit p_prv (df_of X G c 49 43)
  have p_ver : PVer P w K mg base := ok_verdict T p_needW p_needPit p_bests p_gPay (df_of X G c 50 44)
  have p_taken : PTaken P w K mg base := ok_law_taken T (df_of X G c 51 45)
  have p_cov : PCov P w K mg base := ok_law_covers T p_taken (df_of X G c 52 46)
  have p_low : PLow P w K mg base := ok_law_low T p_taken (df_of X G c 53 47)
  exact ok_law T p_init p_cov p_low p_dbl p_dw p_leastP p_greatP p_bestR p_bestW p_least p_greatB p_of p_as p_payments p_shows p_ver F
end Pz
end
section
set_option Elab.async false
set_option linter.all false
set_option maxRecDepth 100000
set_option maxHeartbeats 0
open PySem PySem.W PySem.Calls PyProof.Rows
theorem PySem.Challenge.cw_pitlots_k53_whole_refills_as_payments_holds : PySem.Challenge.rw_pitlots_k53_whole_refills_as_payments.Holds := by
  w_on; o_law
  refine HandSHeadRun.head_any (r := OpenLaw.row PySem.Challenge.rw_pitlots_k53_whole_refills_as_payments) (q := view (OpenLaw.row PySem.Challenge.rw_pitlots_k53_whole_refills_as_payments).prog [76]) (H := Pz.hk) (ob := Pz.ob) (M := 6000) (loose := Pz.lo) (d := HandSHeadRun.topDef (OpenLaw.row PySem.Challenge.rw_pitlots_k53_whole_refills_as_payments).prog 76) (kwd := []) Pz.ob_eq
    (by kernel_rfl) (fun s => by kernel_rfl) Pz.run (by kernel_rfl) (by kernel_rfl) (by kernel_rfl) (by rfl) (by first | assumption | decide +kernel) (by decide +kernel) ⟨rfl, rfl, rfl, rfl, rfl, by decide +kernel⟩ ?hw ?hc
  case hw => w_witness2
  case hc =>
    refine L2.walk_ofE (l := PySem.Challenge.rw_pitlots_k53_whole_refills_as_payments) (n := 63) (k := 9) (x := "_law_script") (CX := L2.CX0) rfl (by decide) (by kernel_rfl) ⟨rfl, by decide, by decide⟩ ?F (fun _ _ _ _ z => z)
    intro w mg fa h Y G hmg0
    obtain ⟨K, KX, c, hi⟩ := Y
    have hmg : mg ("law" : PySem.Str) = some (.ref fa) := by
      have e : (HandSHeadRun.topDef (OpenLaw.row PySem.Challenge.rw_pitlots_k53_whole_refills_as_payments).prog 76).name = ("law" : PySem.Str) := by kernel_rfl
      rw [← e]
      exact hmg0
    obtain ⟨fd, hb, hF⟩ := Pz.facts (P := (PySem.Challenge.rw_pitlots_k53_whole_refills_as_payments).prog) (w := w) KX G hmg c hi
    exact ⟨K, fd, Pz.spLaw K, KX, hb, fun H a ns hl _ hS => ⟨a, ns, rfl, hS, hl, fun _ => rfl⟩, hF⟩
end
