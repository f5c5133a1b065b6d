import PyProof.Rows.All
import Wide.All
import OpenK.AllK
import Wide.FinOn
import KE.SortData
import KE.KDictZip
import KE.GoesEnum
import HandS.ForMost
import HandS.More
import HandS.IsInst
import HandS.DictTup
import HandS.TupSets
import HandS.SetKeys
import HandS.Strs
import HandS.TupLen
import HandS.Walk
import HandS.Zip
import PySem.Challenge.RW_everypiece_k27_whole_class_of_each_piece
set_option Elab.async false
set_option maxRecDepth 100000
section
/-! EpA: words (lists of numbers), their order, beginnings, what two have in common. Plain Lean. -/
set_option autoImplicit false
namespace EP
abbrev Wd := List Nat
abbrev Pl := Nat × Nat

/-! ### the order of words -/
theorem wd_trich (x y : Wd) : x < y ∨ x = y ∨ y < x := by
  induction x generalizing y with
  | nil =>
    cases y with
    | nil => exact .inr (.inl rfl)
    | cons b y => exact .inl (List.nil_lt_cons b y)
  | cons a x ih =>
    cases y with
    | nil => exact .inr (.inr (List.nil_lt_cons a x))
    | cons b y =>
      rcases Nat.lt_trichotomy a b with h | h | h
      · exact .inl (List.cons_lt_cons_iff.mpr (.inl h))
      · subst h
        rcases ih y with h | h | h
        · exact .inl (List.cons_lt_cons_iff.mpr (.inr ⟨rfl, h⟩))
        · exact .inr (.inl (by rw [h]))
        · exact .inr (.inr (List.cons_lt_cons_iff.mpr (.inr ⟨rfl, h⟩)))
      · exact .inr (.inr (List.cons_lt_cons_iff.mpr (.inl h)))
theorem wd_irr (x : Wd) : ¬ x < x := by
  induction x with
  | nil => exact List.not_lt_nil []
  | cons a x ih =>
    intro h
    rcases List.cons_lt_cons_iff.mp h with h | ⟨_, h⟩
    · exact Nat.lt_irrefl _ h
    · exact ih h
theorem wd_tr {x y z : Wd} (h : x < y) (k : y < z) : x < z := by
  induction x generalizing y z with
  | nil =>
    cases z with
    | nil => exact absurd k (List.not_lt_nil y)
    | cons c z => exact List.nil_lt_cons c z
  | cons a x ih =>
    cases y with
    | nil => exact absurd h (List.not_lt_nil _)
    | cons b y =>
      cases z with
      | nil => exact absurd k (List.not_lt_nil _)
      | cons c z =>
        rcases List.cons_lt_cons_iff.mp h with h1 | ⟨e1, h1⟩
        · rcases List.cons_lt_cons_iff.mp k with k1 | ⟨e2, k1⟩
          · exact List.cons_lt_cons_iff.mpr (.inl (Nat.lt_trans h1 k1))
          · exact List.cons_lt_cons_iff.mpr (.inl (e2 ▸ h1))
        · rcases List.cons_lt_cons_iff.mp k with k1 | ⟨e2, k1⟩
          · exact List.cons_lt_cons_iff.mpr (.inl (e1 ▸ k1))
          · exact List.cons_lt_cons_iff.mpr (.inr ⟨e1.trans e2, ih h1 k1⟩)
theorem wd_asy {x y : Wd} (h : x < y) : ¬ y < x := fun k => wd_irr x (wd_tr h k)
/-- not below, over -/
theorem wd_ntr {x y z : Wd} (h : ¬ y < x) (k : ¬ z < y) : ¬ z < x := fun q => by
  rcases wd_trich x y with e | e | e
  · exact k (wd_tr q e)
  · subst e; exact k q
  · exact h e
theorem wd_eq {x y : Wd} (h : ¬ x < y) (k : ¬ y < x) : x = y := by
  rcases wd_trich x y with e | e | e
  · exact absurd e h
  · exact e
  · exact absurd e k
/-- a beginning is not greater -/
theorem wd_pre {w x : Wd} (h : w <+: x) : ¬ x < w := by
  obtain ⟨r, rfl⟩ := h
  induction w with
  | nil => exact List.not_lt_nil _
  | cons a w ih =>
    intro h
    rcases List.cons_lt_cons_iff.mp h with h | ⟨_, h⟩
    · exact Nat.lt_irrefl _ h
    · exact ih h
/-- between a word and one that begins with it all begin with it -/
theorem wd_between {w x y : Wd} (h1 : ¬ x < w) (h2 : ¬ y < x) (h : w <+: y) : w <+: x := by
  obtain ⟨r, rfl⟩ := h
  induction w generalizing x with
  | nil => exact List.nil_prefix
  | cons a w ih =>
    cases x with
    | nil => exact absurd (List.nil_lt_cons a w) h1
    | cons b x =>
      have e : b = a := by
        rcases Nat.lt_trichotomy b a with q | q | q
        · exact absurd (List.cons_lt_cons_iff.mpr (.inl q)) h1
        · exact q
        · exact absurd (List.cons_lt_cons_iff.mpr (.inl q)) h2
      subst e
      refine (List.cons_prefix_cons).mpr ⟨rfl, ih (fun q => h1 (List.cons_lt_cons_iff.mpr (.inr ⟨rfl, q⟩))) fun q => h2 (List.cons_lt_cons_iff.mpr (.inr ⟨rfl, q⟩))⟩
/-- the order, cut at m -/
theorem wd_cut (m : Nat) (x y : Wd) : x < y ↔ x.take m < y.take m ∨ (x.take m = y.take m ∧ x.drop m < y.drop m) := by
  induction m generalizing x y with
  | zero => simp
  | succ m ih =>
    cases x with
    | nil =>
      cases y with
      | nil => simp
      | cons b y => simp
    | cons a x =>
      cases y with
      | nil => simp
      | cons b y =>
        simp only [List.take_succ_cons, List.drop_succ_cons, List.cons_lt_cons_iff, ih x y, List.cons.injEq]
        constructor
        · rintro (h | ⟨rfl, h | ⟨h, k⟩⟩)
          · exact .inl (.inl h)
          · exact .inl (.inr ⟨rfl, h⟩)
          · exact .inr ⟨⟨rfl, h⟩, k⟩
        · rintro ((h | ⟨rfl, h⟩) | ⟨⟨rfl, h⟩, k⟩)
          · exact .inl h
          · exact .inr ⟨rfl, .inl h⟩
          · exact .inr ⟨rfl, .inr ⟨h, k⟩⟩

/-! ### what two words have in common -/
def lcp : Wd → Wd → Nat
  | a :: x, b :: y => if a = b then lcp x y + 1 else 0
  | _, _ => 0
theorem lcp_le_left : ∀ x y : Wd, lcp x y ≤ x.length
  | [], _ => by simp [lcp]
  | a :: x, [] => by simp [lcp]
  | a :: x, b :: y => by
    have := lcp_le_left x y
    simp only [lcp]; split <;> simp <;> omega
theorem lcp_le_right : ∀ x y : Wd, lcp x y ≤ y.length
  | [], _ => by simp [lcp]
  | a :: x, [] => by simp [lcp]
  | a :: x, b :: y => by
    have := lcp_le_right x y
    simp only [lcp]; split <;> simp <;> omega
theorem pre_iff_lcp : ∀ (w x y : Wd), w <+: x → (w <+: y ↔ w.length ≤ lcp x y)
  | [], x, y, _ => by simp
  | a :: w, [], y, h => by simp at h
  | a :: w, b :: x, [], h => by
    simp [lcp]
  | a :: w, b :: x, c :: y, h => by
    obtain ⟨e1, h1⟩ := List.cons_prefix_cons.mp h
    subst e1
    rw [List.cons_prefix_cons]
    simp only [lcp]
    by_cases e : a = c
    · subst e
      simp only [true_and, if_true, List.length_cons]
      rw [pre_iff_lcp w x y h1]; omega
    · simp [e]
theorem lcp_take_left (x y : Wd) : x.take (lcp x y) <+: y := by
  refine (pre_iff_lcp _ x y (List.take_prefix _ _)).mpr ?_
  rw [List.length_take]; have := lcp_le_left x y; omega
theorem lcp_comm : ∀ x y : Wd, lcp x y = lcp y x
  | [], [] => rfl
  | [], _ :: _ => by simp [lcp]
  | _ :: _, [] => by simp [lcp]
  | a :: x, b :: y => by
    simp only [lcp, lcp_comm x y]
    by_cases e : a = b
    · subst e; rfl
    · rw [if_neg e, if_neg fun z => e z.symm]
/-- sign by sign: like so far, then unlike or one at its end -/
theorem lcp_at (x y : Wd) (m : Nat) (hx : m ≤ x.length) (hy : m ≤ y.length) (h : ∀ i, i < m → x[i]? = y[i]?) (hs : m = x.length ∨ m = y.length ∨ x[m]? ≠ y[m]?) : lcp x y = m := by
  induction m generalizing x y with
  | zero =>
    cases x with
    | nil => simp [lcp]
    | cons a x =>
      cases y with
      | nil => simp [lcp]
      | cons b y =>
        simp at hs
        simp [lcp, hs]
  | succ m ih =>
    cases x with
    | nil => simp at hx
    | cons a x =>
      cases y with
      | nil => simp at hy
      | cons b y =>
        have e : a = b := by simpa using h 0 (Nat.zero_lt_succ m)
        subst e
        have := ih x y (by simpa using hx) (by simpa using hy) (fun i hi => by simpa using h (i + 1) (Nat.succ_lt_succ hi)) (by simpa using hs)
        simp [lcp, this]
/-- a word with one sign more -/
theorem pre_snoc {w x : Wd} {c : Nat} : (w ++ [c]) <+: x ↔ w <+: x ∧ x[w.length]? = some c := by
  constructor
  · rintro ⟨r, rfl⟩
    refine ⟨⟨[c] ++ r, by simp⟩, by simp⟩
  · rintro ⟨⟨r, rfl⟩, h⟩
    cases r with
    | nil => simp at h
    | cons d r =>
      simp at h
      subst h
      exact ⟨r, by simp⟩
theorem pre_take {w x : Wd} : w <+: x ↔ x.take w.length = w := by
  rw [List.prefix_iff_eq_take]
  exact eq_comm
theorem pre_len {w v x : Wd} (h : w <+: x) (k : v <+: x) (l : w.length ≤ v.length) : w <+: v := by
  rw [List.prefix_iff_eq_take] at h k
  rw [List.prefix_iff_eq_take, k, List.take_take, Nat.min_eq_left l]
  exact h
theorem pre_one {w v x : Wd} (h : w <+: x) (k : v <+: x) (l : w.length = v.length) : w = v :=
  (pre_len h k (Nat.le_of_eq l)).eq_of_length l
theorem pre_drop {w x : Wd} (k : Nat) (h : w <+: x) : w.drop k <+: x.drop k := by
  obtain ⟨r, rfl⟩ := h
  by_cases e : k ≤ w.length
  · rw [List.drop_append_of_le_length e]; exact List.prefix_append _ _
  · rw [List.drop_eq_nil_of_le (by omega)]; exact List.nil_prefix
theorem pre_at {w x : Wd} (h : w <+: x) {i : Nat} (hi : i < w.length) : x[i]? = w[i]? := by
  obtain ⟨r, rfl⟩ := h
  exact List.getElem?_append_left hi

/-! ### lists in order -/
/-- two rising lists with the same members are one -/
theorem rise_one {α : Type} {lt : α → α → Prop} (irr : ∀ a, ¬ lt a a) (tr : ∀ a b c, lt a b → lt b c → lt a c) :
    ∀ {l m : List α}, l.Pairwise lt → m.Pairwise lt → (∀ a, a ∈ l ↔ a ∈ m) → l = m
  | [], [], _, _, _ => rfl
  | [], b :: m, _, _, h => absurd ((h b).mpr List.mem_cons_self) (List.not_mem_nil)
  | a :: l, [], _, _, h => absurd ((h a).mp List.mem_cons_self) (List.not_mem_nil)
  | a :: l, b :: m, hl, hm, h => by
    obtain ⟨hl1, hl2⟩ := List.pairwise_cons.mp hl
    obtain ⟨hm1, hm2⟩ := List.pairwise_cons.mp hm
    have e : a = b := by
      rcases List.mem_cons.mp ((h a).mp List.mem_cons_self) with e | e
      · exact e
      · rcases List.mem_cons.mp ((h b).mpr List.mem_cons_self) with k | k
        · exact k.symm
        · exact absurd (tr _ _ _ (hm1 a e) (hl1 b k)) (irr _)
    subst e
    refine congrArg (a :: ·) (rise_one irr tr hl2 hm2 fun c => ⟨fun q => ?_, fun q => ?_⟩)
    · rcases List.mem_cons.mp ((h c).mp (List.mem_cons_of_mem _ q)) with k | k
      · subst k; exact absurd (hl1 _ q) (irr _)
      · exact k
    · rcases List.mem_cons.mp ((h c).mpr (List.mem_cons_of_mem _ q)) with k | k
      · subst k; exact absurd (hm1 _ q) (irr _)
      · exact k
/-- a stretch of a list told by its places -/
theorem stretch_filter {α : Type} (p : α → Bool) : ∀ (l : List α) (a b : Nat), (∀ i x, l[i]? = some x → ((a ≤ i ∧ i < b) ↔ p x = true)) → (l.take b).drop a = l.filter p
  | [], a, b, _ => by simp
  | x :: l, a, b, h => by
    cases b with
    | zero =>
      have : (x :: l).filter p = [] := by
        rw [List.filter_eq_nil_iff]
        intro y hy
        obtain ⟨i, hi, e⟩ := List.getElem_of_mem hy
        have := h i y (by rw [List.getElem?_eq_getElem hi, e])
        intro q
        exact absurd (this.mpr q).2 (Nat.not_lt_zero _)
      rw [this]; simp
    | succ b =>
      have h0 := h 0 x rfl
      cases a with
      | zero =>
        have e : p x = true := h0.mp ⟨Nat.le_refl _, Nat.zero_lt_succ _⟩
        rw [List.filter_cons_of_pos e]
        simp only [List.take_succ_cons, List.drop_zero]
        have := stretch_filter p l 0 b fun i y hy => by
          have := h (i + 1) y (by simpa using hy)
          rw [← this]; omega
        rw [List.drop_zero] at this
        rw [this]
      | succ a =>
        have e : ¬ p x = true := fun q => by
          have := h0.mpr q
          omega
        rw [List.filter_cons_of_neg e]
        simp only [List.take_succ_cons, List.drop_succ_cons]
        exact stretch_filter p l a b fun i y hy => by
          have := h (i + 1) y (by simpa using hy)
          rw [← this]; omega
end EP
end
section
/-! EpB: texts, places, endings in order, spans, occurrences, growth, classes. Plain Lean. -/
set_option autoImplicit false
namespace EP

def tx (ts : List Wd) (i : Nat) : Wd := ts.getD i []
def suf (ts : List Wd) (p : Pl) : Wd := (tx ts p.1).drop p.2
def rowP (ts : List Wd) (i : Nat) : List Pl := (List.range (tx ts i).length).map fun j => (i, j)
def allP (ts : List Wd) : List Pl := (List.range ts.length).flatMap (rowP ts)
theorem tx_of {ts : List Wd} {i : Nat} {t : Wd} (h : ts[i]? = some t) : tx ts i = t := by
  unfold tx; rw [List.getD_eq_getElem?_getD, h]; rfl
theorem tx_out {ts : List Wd} {i : Nat} (h : ts.length ≤ i) : tx ts i = [] := by
  unfold tx; rw [List.getD_eq_getElem?_getD, List.getElem?_eq_none h]; rfl
theorem mem_allP {ts : List Wd} {p : Pl} : p ∈ allP ts ↔ p.2 < (tx ts p.1).length := by
  obtain ⟨i, j⟩ := p
  unfold allP rowP
  simp only [List.mem_flatMap, List.mem_range, List.mem_map, Prod.mk.injEq]
  constructor
  · rintro ⟨a, ha, b, hb, rfl, rfl⟩; exact hb
  · intro h
    refine ⟨i, ?_, j, h, rfl, rfl⟩
    rcases Nat.lt_or_ge i ts.length with k | k
    · exact k
    · rw [tx_out k] at h; simp at h
def plt (p q : Pl) : Prop := p.1 < q.1 ∨ (p.1 = q.1 ∧ p.2 < q.2)
theorem plt_irr (p : Pl) : ¬ plt p p := by unfold plt; omega
theorem plt_tr (p q r : Pl) : plt p q → plt q r → plt p r := by unfold plt; omega
theorem allP_rise (ts : List Wd) : (allP ts).Pairwise plt := by
  unfold allP
  rw [List.pairwise_flatMap]
  refine ⟨fun i _ => ?_, ?_⟩
  · unfold rowP
    rw [List.pairwise_map]
    exact List.pairwise_lt_range.imp fun h => .inr ⟨rfl, h⟩
  · refine List.pairwise_lt_range.imp fun {a b} h x hx y hy => ?_
    unfold rowP at hx hy
    obtain ⟨j, _, rfl⟩ := List.mem_map.mp hx
    obtain ⟨k, _, rfl⟩ := List.mem_map.mp hy
    exact .inl h
theorem allP_nodup (ts : List Wd) : (allP ts).Nodup := (allP_rise ts).imp (fun {a b} (h : plt a b) => (fun (e : a = b) => plt_irr a (by rw [← e] at h; exact h) : a ≠ b))
theorem suf_ne {ts : List Wd} {p : Pl} (h : p ∈ allP ts) : suf ts p ≠ [] := by
  have := mem_allP.mp h
  unfold suf
  intro e
  rw [List.drop_eq_nil_iff] at e
  omega
theorem suf_len {ts : List Wd} {p : Pl} : (suf ts p).length = (tx ts p.1).length - p.2 := by
  unfold suf; rw [List.length_drop]
theorem suf_at {ts : List Wd} {p : Pl} {i : Nat} : (suf ts p)[i]? = (tx ts p.1)[p.2 + i]? := by
  unfold suf; rw [List.getElem?_drop]

/-! ### occurrences -/
def occ (ts : List Wd) (w : Wd) : List Pl := (allP ts).filter fun p => decide (w <+: suf ts p)
theorem mem_occ {ts : List Wd} {w : Wd} {p : Pl} : p ∈ occ ts w ↔ p ∈ allP ts ∧ w <+: suf ts p := by
  unfold occ; rw [List.mem_filter]; simp
theorem occ_ne {ts : List Wd} {w : Wd} (h : occ ts w ≠ []) : ∃ p, p ∈ occ ts w := by
  cases e : occ ts w with
  | nil => exact absurd e h
  | cons a l => exact ⟨a, List.mem_cons_self⟩
theorem ne_occ {ts : List Wd} {w : Wd} {p : Pl} (h : p ∈ occ ts w) : occ ts w ≠ [] := fun e => by rw [e] at h; exact absurd h (List.not_mem_nil)
/-- of a word with a sign -/
theorem mem_occ' {ts : List Wd} {w : Wd} {p : Pl} (hw : w ≠ []) : p ∈ occ ts w ↔ w <+: suf ts p := by
  rw [mem_occ]
  refine ⟨fun h => h.2, fun h => ⟨mem_allP.mpr ?_, h⟩⟩
  have h1 := h.length_le
  rw [suf_len] at h1
  have h2 : 0 < w.length := List.length_pos_iff.mpr hw
  omega

/-! ### endings in order -/
structure IsOrd (ts : List Wd) (ord : List Pl) : Prop where
  perm : ord.Perm (allP ts)
  rise : ord.Pairwise fun p q => ¬ suf ts q < suf ts p
structure IsCom (ts : List Wd) (ord : List Pl) (com : List Nat) : Prop where
  len : com.length = ord.length
  zero : ∀ c, com[0]? = some c → c = 0
  succ : ∀ i p q, ord[i]? = some p → ord[i + 1]? = some q → com[i + 1]? = some (lcp (suf ts p) (suf ts q))
section
variable {ts : List Wd} {ord : List Pl} {com : List Nat} {w : Wd}
theorem IsOrd.le (O : IsOrd ts ord) {i j : Nat} {p q : Pl} (hi : ord[i]? = some p) (hj : ord[j]? = some q) (h : i ≤ j) : ¬ suf ts q < suf ts p := by
  obtain ⟨hi', ei⟩ := List.getElem?_eq_some_iff.mp hi
  obtain ⟨hj', ej⟩ := List.getElem?_eq_some_iff.mp hj
  rcases Nat.lt_or_eq_of_le h with k | k
  · have := List.pairwise_iff_getElem.mp O.rise i j hi' hj' k
    rw [ei, ej] at this; exact this
  · subst k
    rw [hi] at hj; cases hj
    exact wd_irr _
theorem IsOrd.mem (O : IsOrd ts ord) {p : Pl} : p ∈ ord ↔ p ∈ allP ts := O.perm.mem_iff
theorem IsOrd.at (O : IsOrd ts ord) {i : Nat} {p : Pl} (h : ord[i]? = some p) : p ∈ allP ts := O.mem.mp (List.mem_of_getElem? h)
theorem IsOrd.len (O : IsOrd ts ord) : ord.length = (allP ts).length := O.perm.length_eq

/-- first parts the endings that are less than the word from the others -/
def Parts (ts : List Wd) (ord : List Pl) (w : Wd) (first : Nat) : Prop := first ≤ ord.length ∧ ∀ i p, ord[i]? = some p → (suf ts p < w ↔ i < first)
theorem span_none (O : IsOrd ts ord) {first : Nat} (F : Parts ts ord w first) (h : ∀ p, ord[first]? = some p → ¬ w <+: suf ts p) : occ ts w = [] := by
  unfold occ
  rw [List.filter_eq_nil_iff]
  intro p hp hq
  have hq : w <+: suf ts p := by simpa using hq
  obtain ⟨i, hi, e⟩ := List.getElem_of_mem (O.mem.mpr hp)
  have ei : ord[i]? = some p := by rw [List.getElem?_eq_getElem hi, e]
  have h1 : first ≤ i := Nat.le_of_not_lt fun z => wd_pre hq ((F.2 i p ei).mpr z)
  have hf : ord[first]? = some ord[first] := List.getElem?_eq_getElem (by omega)
  refine h _ hf (wd_between (fun z => ?_) (O.le hf ei h1) hq)
  exact absurd ((F.2 first _ hf).mp z) (Nat.lt_irrefl _)
theorem span_some (O : IsOrd ts ord) (C : IsCom ts ord com) {first behind : Nat} (F : Parts ts ord w first) (h : ∀ p, ord[first]? = some p → w <+: suf ts p) (hb : first < behind) (hn : behind ≤ ord.length)
    (hc : ∀ j c, first < j → j < behind → com[j]? = some c → w.length ≤ c) (hs : ∀ c, com[behind]? = some c → c < w.length) : ∀ i p, ord[i]? = some p → ((first ≤ i ∧ i < behind) ↔ w <+: suf ts p) := by
  have up : ∀ i, first ≤ i → i < behind → ∀ p, ord[i]? = some p → w <+: suf ts p := by
    intro i
    induction i with
    | zero => intro h1 h2 p hp; obtain rfl : first = 0 := by omega
              exact h p hp
    | succ i ih =>
      intro h1 h2 p hp
      by_cases e : first = i + 1
      · subst e; exact h p hp
      · have hi : i < ord.length := by omega
        have hq : ord[i]? = some ord[i] := List.getElem?_eq_getElem hi
        have w1 := ih (by omega) (by omega) _ hq
        have c1 := C.succ i _ _ hq hp
        exact (pre_iff_lcp _ _ _ w1).mpr (hc (i + 1) _ (by omega) h2 c1)
  intro i p hp
  refine ⟨fun ⟨a, b⟩ => up i a b p hp, fun hw => ?_⟩
  have h1 : first ≤ i := Nat.le_of_not_lt fun z => wd_pre hw ((F.2 i p hp).mpr z)
  refine ⟨h1, Nat.lt_of_not_le fun z => ?_⟩
  have hi : i < ord.length := (List.getElem?_eq_some_iff.mp hp).1
  have hr : ord[behind]? = some ord[behind] := List.getElem?_eq_getElem (by omega)
  obtain ⟨b, rfl⟩ : ∃ b, behind = b + 1 := ⟨behind - 1, by omega⟩
  have hq : ord[b]? = some ord[b] := List.getElem?_eq_getElem (by omega)
  have wq := up b (by omega) (by omega) _ hq
  have wr : w <+: suf ts ord[b + 1] := wd_between (fun y => wd_ntr (wd_pre wq) (O.le hq hr (Nat.le_succ b)) y) (O.le hr hp z) hw
  have := (pre_iff_lcp _ _ _ wq).mp wr
  exact absurd (hs _ (C.succ b _ _ hq hr)) (by omega)
theorem span_slice {first behind : Nat} (h : ∀ i p, ord[i]? = some p → ((first ≤ i ∧ i < behind) ↔ w <+: suf ts p)) : (ord.take behind).drop first = ord.filter fun p => decide (w <+: suf ts p) :=
  stretch_filter _ ord first behind fun i p hp => by rw [h i p hp]; simp
theorem slice_perm (O : IsOrd ts ord) {first behind : Nat} (h : ∀ i p, ord[i]? = some p → ((first ≤ i ∧ i < behind) ↔ w <+: suf ts p)) : ((ord.take behind).drop first).Perm (occ ts w) := by
  rw [span_slice h]
  exact O.perm.filter _

/-! ### the sign ahead -/
def ah (ts : List Wd) (p : Pl) : Option Nat := if p.2 = 0 then none else (tx ts p.1)[p.2 - 1]?
/-- the first of a list if all are like it -/
def saf : List (Option Nat) → Option Nat
  | [] => none
  | a :: r => if (a :: r).all (· == a) = true then a else none
theorem saf_cons (a : Option Nat) (r : List (Option Nat)) : saf (a :: r) = if (a :: r).all (· == a) = true then a else none := rfl
theorem saf_some {l : List (Option Nat)} {c : Nat} : saf l = some c ↔ l ≠ [] ∧ ∀ x ∈ l, x = some c := by
  cases l with
  | nil => simp [saf]
  | cons a r =>
    rw [saf_cons]
    constructor
    · intro h
      by_cases hall : (a :: r).all (· == a) = true
      · rw [if_pos hall] at h
        subst h
        refine ⟨by simp, fun x hx => ?_⟩
        have := List.all_eq_true.mp hall x hx
        simpa using this
      · rw [if_neg hall] at h; cases h
    · rintro ⟨_, h⟩
      have ha := h a List.mem_cons_self
      subst ha
      rw [if_pos]
      rw [List.all_eq_true]
      intro x hx
      rw [h x hx]; simp
theorem saf_ah {ps : List Pl} {c : Nat} : saf (ps.map (ah ts)) = some c ↔ ps ≠ [] ∧ ∀ p ∈ ps, ah ts p = some c := by
  rw [saf_some]
  refine ⟨fun h => ⟨fun e => h.1 (by rw [e]; rfl), fun p hp => h.2 _ (List.mem_map_of_mem hp)⟩, fun h => ⟨fun e => h.1 (List.map_eq_nil_iff.mp e), fun x hx => ?_⟩⟩
  obtain ⟨p, hp, rfl⟩ := List.mem_map.mp hx
  exact h.2 p hp

/-! ### growth -/
structure Grown (ts : List Wd) (w g : Wd) (k : Nat) : Prop where
  piece : occ ts w ≠ []
  stands : ∀ p ∈ occ ts w, k ≤ p.2 ∧ g <+: suf ts (p.1, p.2 - k)
  left : ∀ c, ¬ ∀ p ∈ occ ts w, ah ts (p.1, p.2 - k) = some c
  right : ∀ c, ¬ ∀ p ∈ occ ts w, (g ++ [c]) <+: suf ts (p.1, p.2 - k)
  long : k + w.length ≤ g.length
theorem Grown.ne {g : Wd} {k : Nat} (hw : w ≠ []) (G : Grown ts w g k) : g ≠ [] := fun e => by
  have h1 := G.long
  have h2 : 0 < w.length := List.length_pos_iff.mpr hw
  have h3 : g.length = 0 := by rw [e]; rfl
  omega
theorem Grown.offset {g g' : Wd} {k k' : Nat} (hw : w ≠ []) (G : Grown ts w g k) (G' : Grown ts w g' k') : ¬ k < k' := fun hlt => by
  have hwl : 0 < w.length := List.length_pos_iff.mpr hw
  have hl := G'.long
  have hi : k' - k - 1 < g'.length := by omega
  refine G.left g'[k' - k - 1] fun p hp => ?_
  obtain ⟨h1, h2⟩ := G'.stands p hp
  have h3 := pre_at h2 hi
  rw [suf_at, List.getElem?_eq_getElem hi] at h3
  unfold ah
  rw [if_neg (by show ¬ p.2 - k = 0; omega), ← h3]
  show (tx ts p.1)[p.2 - k - 1]? = (tx ts p.1)[p.2 - k' + (k' - k - 1)]?
  rw [show p.2 - k' + (k' - k - 1) = p.2 - k - 1 by omega]
theorem Grown.one {g g' : Wd} {k k' : Nat} (hw : w ≠ []) (G : Grown ts w g k) (G' : Grown ts w g' k') : g = g' ∧ k = k' := by
  have e : k = k' := by
    have := G.offset hw G'
    have := G'.offset hw G
    omega
  subst e
  refine ⟨?_, rfl⟩
  have key : ∀ {a b : Wd}, Grown ts w a k → Grown ts w b k → ¬ a.length < b.length := fun {a b} A B hlt => by
    refine A.right b[a.length] fun p hp => pre_snoc.mpr ⟨(A.stands p hp).2, ?_⟩
    rw [pre_at (B.stands p hp).2 hlt, List.getElem?_eq_getElem hlt]
  obtain ⟨p, hp⟩ := occ_ne G.piece
  have h1 := key G G'
  have h2 := key G' G
  exact pre_one (G.stands p hp).2 (G'.stands p hp).2 (by omega)
theorem Grown.within {g : Wd} {k : Nat} (G : Grown ts w g k) : w <+: g.drop k := by
  obtain ⟨p, hp⟩ := occ_ne G.piece
  obtain ⟨h1, h2⟩ := G.stands p hp
  have h3 := pre_drop k h2
  have h4 : (suf ts (p.1, p.2 - k)).drop k = suf ts p := by
    unfold suf
    rw [List.drop_drop, show p.2 - k + k = p.2 by omega]
  rw [h4] at h3
  refine pre_len (mem_occ.mp hp).2 h3 ?_
  have := G.long
  rw [List.length_drop]; omega
theorem suf_shift {p : Pl} (k : Nat) : (suf ts p).drop k = suf ts (p.1, p.2 + k) := by
  unfold suf; rw [List.drop_drop]
theorem Grown.occ {g : Wd} {k : Nat} (hw : w ≠ []) (G : Grown ts w g k) (p : Pl) : p ∈ occ ts g ↔ (p.1, p.2 + k) ∈ EP.occ ts w := by
  have hg : g ≠ [] := G.ne hw
  constructor
  · intro h
    refine (mem_occ' hw).mpr ?_
    rw [← suf_shift]
    exact G.within.trans (pre_drop k ((mem_occ' hg).mp h))
  · intro h
    have := (G.stands _ h).2
    rw [show p.2 + k - k = p.2 by omega] at this
    exact (mem_occ' hg).mpr this
/-- as many places -/
theorem Grown.count {g : Wd} {k : Nat} (hw : w ≠ []) (G : Grown ts w g k) : (EP.occ ts g).length = (EP.occ ts w).length := by
  have n1 : (EP.occ ts g).Nodup := (allP_nodup ts).filter _
  have n2 : (EP.occ ts w).Nodup := (allP_nodup ts).filter _
  have n3 : ((EP.occ ts g).map fun p : Pl => ((p.1, p.2 + k) : Pl)).Nodup := by
    refine List.Pairwise.map _ (fun a b h e => h ?_) n1
    obtain ⟨a1, a2⟩ := a
    obtain ⟨b1, b2⟩ := b
    simp only [Prod.mk.injEq] at e ⊢
    omega
  have pm : ((EP.occ ts g).map fun p : Pl => ((p.1, p.2 + k) : Pl)).Perm (EP.occ ts w) := by
    refine (List.perm_ext_iff_of_nodup n3 n2).mpr fun q => ?_
    rw [List.mem_map]
    constructor
    · rintro ⟨p, hp, rfl⟩; exact (G.occ hw p).mp hp
    · intro hq
      obtain ⟨h1, _⟩ := G.stands q hq
      refine ⟨(q.1, q.2 - k), (G.occ hw _).mpr ?_, ?_⟩
      · show (q.1, q.2 - k + k) ∈ _
        rw [show q.2 - k + k = q.2 by omega]; exact hq
      · show (q.1, q.2 - k + k) = q
        rw [show q.2 - k + k = q.2 by omega]
  have := pm.length_eq
  rw [List.length_map] at this
  exact this

/-! ### classes, by their longest pieces -/
def RightEnd (ts : List Wd) (w : Wd) : Prop := ∀ c, ¬ ∀ p ∈ occ ts w, (w ++ [c]) <+: suf ts p
def LeftEnd (ts : List Wd) (w : Wd) : Prop := ∀ c, ¬ ∀ p ∈ occ ts w, ah ts p = some c
structure Longest (ts : List Wd) (w : Wd) : Prop where
  ne : w ≠ []
  piece : occ ts w ≠ []
  left : LeftEnd ts w
  right : RightEnd ts w
theorem Longest.self (L : Longest ts w) : Grown ts w w 0 :=
  ⟨L.piece, fun _ hp => ⟨Nat.zero_le _, (mem_occ.mp hp).2⟩, L.left, L.right, by omega⟩
theorem Grown.longest {g : Wd} {k : Nat} (hw : w ≠ []) (G : Grown ts w g k) : Longest ts g := by
  have hg : g ≠ [] := G.ne hw
  have back : ∀ p ∈ EP.occ ts w, (p.1, p.2 - k) ∈ EP.occ ts g := fun p hp => by
    refine (G.occ hw _).mpr ?_
    have := (G.stands p hp).1
    show (p.1, p.2 - k + k) ∈ _
    rw [show p.2 - k + k = p.2 by omega]; exact hp
  obtain ⟨p0, h0⟩ := occ_ne G.piece
  exact ⟨hg, ne_occ (back p0 h0), fun c h => G.left c fun p hp => h _ (back p hp), fun c h => G.right c fun p hp => h _ (back p hp)⟩

/-- what the candidates are -/
def IsCand (ts : List Wd) (ord : List Pl) (com : List Nat) (C : List Wd) : Prop :=
  ∀ v : Wd, v ∈ C ↔ ∃ (i : Nat) (p : Pl), ord[i]? = some p ∧ (v = suf ts p ∨ ∃ c, com[i]? = some c ∧ 0 < c ∧ v = (suf ts p).take c)
theorem cand_iff (O : IsOrd ts ord) (C : IsCom ts ord com) {Cs : List Wd} (K : IsCand ts ord com Cs) (v : Wd) : v ∈ Cs ↔ v ≠ [] ∧ occ ts v ≠ [] ∧ RightEnd ts v := by
  rw [K v]
  constructor
  · rintro ⟨i, p, hi, h⟩
    have hp := O.at hi
    rcases h with rfl | ⟨c, hc, h0, rfl⟩
    · refine ⟨suf_ne hp, ne_occ (mem_occ.mpr ⟨hp, List.prefix_refl _⟩), fun c h => ?_⟩
      have := (h p (mem_occ.mpr ⟨hp, List.prefix_refl _⟩)).length_le
      rw [List.length_append, List.length_singleton] at this
      omega
    · cases i with
      | zero => exact absurd (C.zero c hc) (by omega)
      | succ i =>
        have hi' : i + 1 < ord.length := (List.getElem?_eq_some_iff.mp hi).1
        have hq : ord[i]? = some ord[i] := List.getElem?_eq_getElem (by omega)
        generalize ord[i] = q at hq
        have e := C.succ i q p hq hi
        rw [hc] at e; cases e
        have hl := lcp_le_right (suf ts q) (suf ts p)
        have hlen : ((suf ts p).take (lcp (suf ts q) (suf ts p))).length = lcp (suf ts q) (suf ts p) := by rw [List.length_take]; omega
        have h1 : (suf ts p).take (lcp (suf ts q) (suf ts p)) <+: suf ts p := List.take_prefix _ _
        have h2 : (suf ts p).take (lcp (suf ts q) (suf ts p)) <+: suf ts q := by
          rw [lcp_comm]; exact lcp_take_left _ _
        refine ⟨fun e => ?_, ne_occ (mem_occ.mpr ⟨hp, h1⟩), fun c h => ?_⟩
        · rw [e] at hlen; simp at hlen; omega
        · have a := h q (mem_occ.mpr ⟨O.at hq, h2⟩)
          have b := h p (mem_occ.mpr ⟨hp, h1⟩)
          have := (pre_iff_lcp _ _ _ a).mp b
          rw [List.length_append, hlen] at this
          simp at this
          omega
  · rintro ⟨hv, hp, hr⟩
    -- the span of v in the order
    refine Classical.byContradiction fun hno => ?_
    have n1 : ∀ i p, ord[i]? = some p → v ≠ suf ts p := fun i p hi e => hno ⟨i, p, hi, .inl e⟩
    have n2 : ∀ i p c, ord[i]? = some p → com[i]? = some c → 0 < c → v ≠ (suf ts p).take c := fun i p c hi hc h0 e => hno ⟨i, p, hi, .inr ⟨c, hc, h0, e⟩⟩
    -- each place has a sign behind
    have nx : ∀ (i : Nat) (p : Pl), ord[i]? = some p → v <+: suf ts p → ∃ c, (suf ts p)[v.length]? = some c := fun i p hi h => by
      have hl := h.length_le
      have : v.length ≠ (suf ts p).length := fun e => n1 i p hi (h.eq_of_length e)
      exact ⟨_, List.getElem?_eq_getElem (by omega)⟩
    -- neighbours have the same
    have nb : ∀ (i : Nat) (p q : Pl), ord[i]? = some p → ord[i + 1]? = some q → v <+: suf ts p → v <+: suf ts q → (suf ts p)[v.length]? = (suf ts q)[v.length]? := fun i p q hi hj h k => by
      have c1 := C.succ i p q hi hj
      have l1 := (pre_iff_lcp _ _ _ h).mp k
      have hv' : 0 < v.length := List.length_pos_iff.mpr hv
      by_cases e : v.length = lcp (suf ts p) (suf ts q)
      · refine absurd (pre_one k (List.take_prefix (lcp (suf ts p) (suf ts q)) _) ?_) (n2 (i + 1) q _ hj c1 (by omega))
        rw [List.length_take, ← e]
        have := lcp_le_right (suf ts p) (suf ts q)
        omega
      · have l2 := lcp_take_left (suf ts p) (suf ts q)
        have hlt : v.length < ((suf ts p).take (lcp (suf ts p) (suf ts q))).length := by
          rw [List.length_take]
          have := lcp_le_left (suf ts p) (suf ts q)
          omega
        have a := pre_at l2 hlt
        have b := pre_at (List.take_prefix (lcp (suf ts p) (suf ts q)) (suf ts p)) hlt
        rw [a, b]
    -- the places of v stand side by side
    have side : ∀ (i j k : Nat) (p q r : Pl), i ≤ j → j ≤ k → ord[i]? = some p → ord[j]? = some q → ord[k]? = some r → v <+: suf ts p → v <+: suf ts r → v <+: suf ts q := fun i j k p q r hij hjk hi hj hk h1 h2 =>
      wd_between (fun z => wd_ntr (wd_pre h1) (O.le hi hj hij) z) (O.le hj hk hjk) h2
    have all : ∀ (d i : Nat) (p q : Pl), ord[i]? = some p → ord[i + d]? = some q → v <+: suf ts p → v <+: suf ts q → (suf ts p)[v.length]? = (suf ts q)[v.length]? := by
      intro d
      induction d with
      | zero => intro i p q hi hj _ _; rw [Nat.add_zero, hi] at hj; cases hj; rfl
      | succ d ih =>
        intro i p q hi hj h k
        have hlt : i + (d + 1) < ord.length := (List.getElem?_eq_some_iff.mp hj).1
        have hm : ord[i + d]? = some ord[i + d] := List.getElem?_eq_getElem (by omega)
        have hvm := side i (i + d) (i + (d + 1)) _ _ _ (by omega) (by omega) hi hm hj h k
        rw [ih i p _ hi hm h hvm]
        exact nb (i + d) _ q hm hj hvm k
    obtain ⟨p0, h0⟩ := occ_ne hp
    obtain ⟨i0, hi0, e0⟩ := List.getElem_of_mem (O.mem.mpr (mem_occ.mp h0).1)
    have ei0 : ord[i0]? = some p0 := by rw [List.getElem?_eq_getElem hi0, e0]
    obtain ⟨c, hc⟩ := nx i0 p0 ei0 (mem_occ.mp h0).2
    refine hr c fun q hq => pre_snoc.mpr ⟨(mem_occ.mp hq).2, ?_⟩
    obtain ⟨j0, hj0, f0⟩ := List.getElem_of_mem (O.mem.mpr (mem_occ.mp hq).1)
    have ej0 : ord[j0]? = some q := by rw [List.getElem?_eq_getElem hj0, f0]
    rcases Nat.le_total i0 j0 with z | z
    · rw [← hc]
      exact (all (j0 - i0) i0 p0 q ei0 (by rw [show i0 + (j0 - i0) = j0 by omega]; exact ej0) (mem_occ.mp h0).2 (mem_occ.mp hq).2).symm
    · rw [← hc]
      exact all (i0 - j0) j0 q p0 ej0 (by rw [show j0 + (i0 - j0) = i0 by omega]; exact ei0) (mem_occ.mp hq).2 (mem_occ.mp h0).2

/-! ### the order of classes -/
def slo (x y : Wd) : Prop := x.length < y.length ∨ (x.length = y.length ∧ x < y)
theorem slo_irr (x : Wd) : ¬ slo x x := by
  rintro (h | ⟨_, h⟩)
  · omega
  · exact wd_irr x h
theorem slo_tr (x y z : Wd) : slo x y → slo y z → slo x z := by
  rintro (h | ⟨e, h⟩) (k | ⟨f, k⟩)
  · exact .inl (by omega)
  · exact .inl (by omega)
  · exact .inl (by omega)
  · exact .inr ⟨by omega, wd_tr h k⟩
/-- the longest pieces in order: just one such list -/
structure IsLong (ts : List Wd) (L : List Wd) : Prop where
  rise : L.Pairwise slo
  mem : ∀ w, w ∈ L ↔ Longest ts w
theorem IsLong.one {L M : List Wd} (h : IsLong ts L) (k : IsLong ts M) : L = M := rise_one slo_irr slo_tr h.rise k.rise fun a => (h.mem a).trans (k.mem a).symm
theorem IsLong.nodup {L : List Wd} (h : IsLong ts L) : L.Nodup := h.rise.imp (fun {a b} (k : slo a b) => (fun (e : a = b) => slo_irr a (by rw [← e] at k; exact k) : a ≠ b))
end
end EP
end
section
/-! EpC: numbers of keys, the order by twice as many signs in each round. Plain Lean. -/
set_option autoImplicit false
namespace EP

structure SOrd {α : Type} (lt : α → α → Prop) : Prop where
  irr : ∀ a, ¬ lt a a
  tr : ∀ a b c, lt a b → lt b c → lt a c
  tri : ∀ a b, lt a b ∨ a = b ∨ lt b a
theorem sord_wd : SOrd (fun a b : Wd => a < b) := ⟨wd_irr, fun _ _ _ => wd_tr, wd_trich⟩
def ilt (p q : Int × Int) : Prop := p.1 < q.1 ∨ (p.1 = q.1 ∧ p.2 < q.2)
theorem sord_ii : SOrd ilt := by
  refine ⟨fun a => ?_, fun a b c => ?_, fun a b => ?_⟩
  · unfold ilt; omega
  · unfold ilt; omega
  · obtain ⟨a1, a2⟩ := a
    obtain ⟨b1, b2⟩ := b
    simp only [ilt, Prod.mk.injEq]; omega

set_option linter.unusedSectionVars false
section
variable {α : Type} [DecidableEq α] {lt : α → α → Prop}
theorem idx_lt (O : SOrd lt) {d : List α} (hd : d.Pairwise lt) {a b : α} (ha : a ∈ d) (hb : b ∈ d) : d.idxOf a < d.idxOf b ↔ lt a b := by
  have key : ∀ {a b : α}, a ∈ d → b ∈ d → d.idxOf a < d.idxOf b → lt a b := fun {a b} ha hb h => by
    have h1 := List.idxOf_lt_length_iff.mpr ha
    have h2 := List.idxOf_lt_length_iff.mpr hb
    have := List.pairwise_iff_getElem.mp hd _ _ h1 h2 h
    rw [List.getElem_idxOf, List.getElem_idxOf] at this
    exact this
  refine ⟨key ha hb, fun h => ?_⟩
  rcases Nat.lt_trichotomy (d.idxOf a) (d.idxOf b) with k | k | k
  · exact k
  · have h1 := List.idxOf_lt_length_iff.mpr ha
    have h2 := List.idxOf_lt_length_iff.mpr hb
    have e : a = b := by
      have e1 : d[d.idxOf a] = a := List.getElem_idxOf h1
      have e2 : d[d.idxOf b] = b := List.getElem_idxOf h2
      rw [← e1, ← e2]
      simp only [k]
    subst e
    exact absurd h (O.irr _)
  · exact absurd (O.tr _ _ _ h (key hb ha k)) (O.irr _)
/-- the numbers kept so far: the unlike ones of a rising list, in order -/
structure Dist (lt : α → α → Prop) (s : List α) (i : Nat) (d : List α) : Prop where
  rise : d.Pairwise lt
  mem : ∀ x, x ∈ d ↔ x ∈ s.take i
theorem Dist.zero (s : List α) : Dist lt s 0 [] := ⟨.nil, fun x => by simp⟩
theorem Dist.same {s d : List α} {i : Nat} {x : α} (D : Dist lt s i d) (h : s[i]? = some x) (hx : x ∈ d) : Dist lt s (i + 1) d := by
  refine ⟨D.rise, fun y => ?_⟩
  rw [List.take_add_one, h, List.mem_append, D.mem y]
  simp only [Option.toList_some, List.mem_singleton]
  refine ⟨.inl, fun q => q.elim id fun e => ?_⟩
  rw [e]; exact (D.mem x).mp hx
theorem Dist.more (O : SOrd lt) {s d : List α} {i : Nat} {x : α} (hs : s.Pairwise fun a b => ¬ lt b a) (D : Dist lt s i d) (h : s[i]? = some x) (hx : x ∉ d) : Dist lt s (i + 1) (d ++ [x]) := by
  refine ⟨List.pairwise_append.mpr ⟨D.rise, List.pairwise_singleton _ _, fun a ha b hb => ?_⟩, fun y => ?_⟩
  · rw [List.mem_singleton.mp hb]
    have hm := (D.mem a).mp ha
    obtain ⟨j, hj, e⟩ := List.getElem_of_mem hm
    have hi := (List.getElem?_eq_some_iff.mp h)
    obtain ⟨hi, ei⟩ := hi
    rw [List.length_take] at hj
    rw [List.getElem_take] at e
    have := List.pairwise_iff_getElem.mp hs j i (by omega) hi (by omega)
    rw [e, ei] at this
    rcases O.tri a x with q | q | q
    · exact q
    · subst q; exact absurd ha hx
    · exact absurd q this
  · rw [List.take_add_one, h, List.mem_append, List.mem_append, D.mem y]
    simp
/-- what the numbers of keys are -/
structure IsRank (lt : α → α → Prop) (xs : List α) (r : List Int) : Prop where
  len : r.length = xs.length
  nat : ∀ (i : Nat) z, r[i]? = some z → 0 ≤ z
  ord : ∀ (i j : Nat) x y u v, xs[i]? = some x → xs[j]? = some y → r[i]? = some u → r[j]? = some v → (u < v ↔ lt x y)
theorem rank_idx (O : SOrd lt) {d xs : List α} (hd : d.Pairwise lt) (hm : ∀ x ∈ xs, x ∈ d) : IsRank lt xs (xs.map fun x => ((d.idxOf x : Nat) : Int)) := by
  refine ⟨by rw [List.length_map], fun i z h => ?_, fun i j x y u v hx hy hu hv => ?_⟩
  · rw [List.getElem?_map] at h
    obtain ⟨a, _, rfl⟩ := Option.map_eq_some_iff.mp h
    omega
  · rw [List.getElem?_map, hx] at hu
    rw [List.getElem?_map, hy] at hv
    cases hu; cases hv
    rw [← idx_lt O hd (hm x (List.mem_of_getElem? hx)) (hm y (List.mem_of_getElem? hy))]
    show ((d.idxOf x : Nat) : Int) < ((d.idxOf y : Nat) : Int) ↔ _
    omega
theorem IsRank.eq (O : SOrd lt) {xs : List α} {r : List Int} (R : IsRank lt xs r) {i j : Nat} {x y : α} {u v : Int} (hx : xs[i]? = some x) (hy : xs[j]? = some y) (hu : r[i]? = some u) (hv : r[j]? = some v) : u = v ↔ x = y := by
  have h1 := R.ord i j x y u v hx hy hu hv
  have h2 := R.ord j i y x v u hy hx hv hu
  constructor
  · intro e
    rcases O.tri x y with q | q | q
    · have := h1.mpr q; omega
    · exact q
    · have := h2.mpr q; omega
  · intro e
    subst e
    have a1 : ¬ u < v := fun z => O.irr _ (h1.mp z)
    have a2 : ¬ v < u := fun z => O.irr _ (h2.mp z)
    omega
end

/-! ### a round -/
def takes (ts : List Wd) (m : Nat) : List Wd := (allP ts).map fun p => (suf ts p).take m
/-- the number of what stands m signs on, -1 without -/
def IsTail (ts : List Wd) (r : List Int) (m : Nat) (p : Pl) (t : Int) : Prop :=
  (∃ j : Nat, (allP ts)[j]? = some (p.1, p.2 + m) ∧ r[j]? = some t) ∨ ((p.1, p.2 + m) ∉ allP ts ∧ t = -1)
theorem takes_at {ts : List Wd} {m i : Nat} {p : Pl} (h : (allP ts)[i]? = some p) : (takes ts m)[i]? = some ((suf ts p).take m) := by
  unfold takes; rw [List.getElem?_map, h]; rfl
theorem tail_lt {ts : List Wd} {r : List Int} {m : Nat} (R : IsRank (fun a b : Wd => a < b) (takes ts m) r) (hm : 0 < m) {p q : Pl} {t u : Int} (hp : IsTail ts r m p t) (hq : IsTail ts r m q u) :
    t < u ↔ ((suf ts p).drop m).take m < ((suf ts q).drop m).take m := by
  rw [suf_shift, suf_shift]
  have ne : ∀ {p : Pl}, p ∈ allP ts → (suf ts p).take m ≠ [] := fun {p} h e => by
    rw [List.take_eq_nil_iff] at e
    rcases e with e | e
    · omega
    · exact suf_ne h e
  have no : ∀ {p : Pl}, p ∉ allP ts → (suf ts p).take m = [] := fun {p} h => by
    have : suf ts p = [] := by
      unfold suf
      rw [List.drop_eq_nil_iff]
      exact Nat.le_of_not_lt fun z => h (mem_allP.mpr z)
    rw [this, List.take_nil]
  rcases hp with ⟨j, hj, rj⟩ | ⟨hj, rfl⟩
  · rcases hq with ⟨k, hk, rk⟩ | ⟨hk, rfl⟩
    · exact R.ord j k _ _ _ _ (takes_at hj) (takes_at hk) rj rk
    · have h0 := R.nat _ _ rj
      rw [no hk]
      refine ⟨fun z => by omega, fun z => absurd z (List.not_lt_nil _)⟩
  · rcases hq with ⟨k, hk, rk⟩ | ⟨hk, rfl⟩
    · have h0 := R.nat _ _ rk
      rw [no hj]
      refine ⟨fun _ => ?_, fun _ => by omega⟩
      have := ne (List.mem_of_getElem? hk)
      cases e : (suf ts (q.1, q.2 + m)).take m with
      | nil => exact absurd e this
      | cons a l => exact List.nil_lt_cons a l
    · rw [no hj, no hk]
      refine ⟨fun z => by omega, fun z => absurd z (List.not_lt_nil _)⟩
theorem round_rank {ts : List Wd} {r r' : List Int} {m : Nat} {keys : List (Int × Int)} (hm : 0 < m) (R : IsRank (fun a b : Wd => a < b) (takes ts m) r) (hl : keys.length = (allP ts).length)
    (hk : ∀ (i : Nat) p k, (allP ts)[i]? = some p → keys[i]? = some k → r[i]? = some k.1 ∧ IsTail ts r m p k.2) (R' : IsRank ilt keys r') : IsRank (fun a b : Wd => a < b) (takes ts (2 * m)) r' := by
  have hlen : (takes ts (2 * m)).length = (allP ts).length := by unfold takes; rw [List.length_map]
  refine ⟨by rw [R'.len, hl, hlen], R'.nat, fun i j x y u v hx hy hu hv => ?_⟩
  have hi : i < (allP ts).length := by rw [← hlen]; exact (List.getElem?_eq_some_iff.mp hx).1
  have hj : j < (allP ts).length := by rw [← hlen]; exact (List.getElem?_eq_some_iff.mp hy).1
  have ep : (allP ts)[i]? = some (allP ts)[i] := List.getElem?_eq_getElem hi
  have eq : (allP ts)[j]? = some (allP ts)[j] := List.getElem?_eq_getElem hj
  generalize (allP ts)[i] = p at ep
  generalize (allP ts)[j] = q at eq
  have eki : keys[i]? = some (keys[i]'(by omega)) := List.getElem?_eq_getElem (by omega)
  have ekj : keys[j]? = some (keys[j]'(by omega)) := List.getElem?_eq_getElem (by omega)
  generalize keys[i]'(by omega) = k at eki
  generalize keys[j]'(by omega) = l at ekj
  obtain ⟨a1, a2⟩ := hk i p k ep eki
  obtain ⟨b1, b2⟩ := hk j q l eq ekj
  rw [takes_at ep] at hx; cases hx
  rw [takes_at eq] at hy; cases hy
  rw [R'.ord i j k l u v eki ekj hu hv]
  show _ ↔ (suf ts p).take (2 * m) < (suf ts q).take (2 * m)
  rw [wd_cut m ((suf ts p).take (2 * m)), List.take_take, List.take_take, List.drop_take, List.drop_take, show min m (2 * m) = m by omega, show 2 * m - m = m by omega,
    ← R.ord i j _ _ _ _ (takes_at ep) (takes_at eq) a1 b1, ← R.eq sord_wd (takes_at ep) (takes_at eq) a1 b1, ← tail_lt R hm a2 b2]
  rfl
/-- the sorted places of the last round -/
theorem ord_of {ts : List Wd} {r : List Int} {m : Nat} (R : IsRank (fun a b : Wd => a < b) (takes ts m) r) (hm : ∀ i, (tx ts i).length ≤ m) {zs : List (Int × Pl)} (hp : zs.Perm (r.zip (allP ts))) (hs : zs.Pairwise fun a b => a.1 ≤ b.1) :
    IsOrd ts (zs.map Prod.snd) := by
  have hl : r.length = (allP ts).length := by rw [R.len]; unfold takes; rw [List.length_map]
  refine ⟨?_, ?_⟩
  · have := hp.map Prod.snd
    rw [List.map_snd_zip (by omega)] at this
    exact this
  · rw [List.pairwise_map]
    refine hs.imp_of_mem fun {a b} ha hb h => ?_
    have full : ∀ p : Pl, (suf ts p).take m = suf ts p := fun p => List.take_of_length_le (by rw [suf_len]; have := hm p.1; omega)
    have ia := hp.mem_iff.mp ha
    have ib := hp.mem_iff.mp hb
    obtain ⟨i, hi, ei⟩ := List.getElem_of_mem ia
    obtain ⟨j, hj, ej⟩ := List.getElem_of_mem ib
    rw [List.length_zip] at hi hj
    rw [List.getElem_zip] at ei ej
    have p1 : (allP ts)[i]? = some a.2 := by rw [← ei]; exact List.getElem?_eq_getElem (by omega)
    have p2 : (allP ts)[j]? = some b.2 := by rw [← ej]; exact List.getElem?_eq_getElem (by omega)
    have r1 : r[i]? = some a.1 := by rw [← ei]; exact List.getElem?_eq_getElem (by omega)
    have r2 : r[j]? = some b.1 := by rw [← ej]; exact List.getElem?_eq_getElem (by omega)
    have := R.ord j i _ _ _ _ (takes_at p2) (takes_at p1) r2 r1
    rw [full, full] at this
    rw [← this]
    omega
/-- the first round: signs -/
theorem rank_one {ts : List Wd} {r : List Int} {ks : List Wd} (hl : ks.length = (allP ts).length) (hk : ∀ (i : Nat) p k, (allP ts)[i]? = some p → ks[i]? = some k → ∃ c, (tx ts p.1)[p.2]? = some c ∧ k = [c]) (R : IsRank (fun a b : Wd => a < b) ks r) :
    IsRank (fun a b : Wd => a < b) (takes ts 1) r := by
  have e : ks = takes ts 1 := by
    refine List.ext_getElem? fun i => ?_
    by_cases hi : i < (allP ts).length
    · have ep : (allP ts)[i]? = some (allP ts)[i] := List.getElem?_eq_getElem hi
      generalize (allP ts)[i] = p at ep
      have ek : ks[i]? = some (ks[i]'(by omega)) := List.getElem?_eq_getElem (by omega)
      generalize ks[i]'(by omega) = k at ek
      obtain ⟨c, hc, rfl⟩ := hk i p k ep ek
      rw [ek, takes_at ep]
      have : (suf ts p)[0]? = some c := by rw [suf_at]; exact hc
      cases h : suf ts p with
      | nil => rw [h] at this; simp at this
      | cons a l => rw [h] at this; simp at this; subst this; rfl
    · rw [List.getElem?_eq_none (by omega), List.getElem?_eq_none (by unfold takes; rw [List.length_map]; omega)]
  rw [e] at R
  exact R
end EP
end
section
/-! EpD: the least parts of a word with as few places. Plain Lean. -/
set_option autoImplicit false
namespace EP
theorem sub_len {α : Type} [DecidableEq α] : ∀ {l m : List α}, l.Nodup → (∀ x ∈ l, x ∈ m) → l.length ≤ m.length
  | [], _, _, _ => Nat.zero_le _
  | a :: l, m, hn, h => by
    obtain ⟨h1, h2⟩ := List.nodup_cons.mp hn
    have ha := h a List.mem_cons_self
    have ih := sub_len (l := l) (m := m.erase a) h2 fun x hx => (List.mem_erase_of_ne (fun e => h1 (by rw [← e]; exact hx))).mpr (h x (List.mem_cons_of_mem _ hx))
    rw [List.length_erase_of_mem ha] at ih
    have := List.length_pos_of_mem ha
    rw [List.length_cons]
    omega
def cnt (ts : List Wd) (w : Wd) : Nat := (occ ts w).length
/-- the signs from a up to behind b -/
def cut (g : Wd) (a b : Nat) : Wd := (g.take b).drop a
theorem cut_len (g : Wd) (a b : Nat) : (cut g a b).length = min b g.length - a := by
  unfold cut; rw [List.length_drop, List.length_take]
theorem cnt_mono {ts : List Wd} {v w : Wd} (hv : v ≠ []) (j : Nat) (h : v <+: w.drop j) : cnt ts w ≤ cnt ts v := by
  unfold cnt
  have n1 : ((occ ts w).map fun p : Pl => ((p.1, p.2 + j) : Pl)).Nodup := by
    refine List.Pairwise.map _ (fun a b h e => h ?_) ((allP_nodup ts).filter _)
    obtain ⟨a1, a2⟩ := a
    obtain ⟨b1, b2⟩ := b
    simp only [Prod.mk.injEq] at e ⊢
    omega
  have sub : ∀ q ∈ (occ ts w).map fun p : Pl => ((p.1, p.2 + j) : Pl), q ∈ occ ts v := by
    intro q hq
    obtain ⟨p, hp, rfl⟩ := List.mem_map.mp hq
    refine (mem_occ' hv).mpr ?_
    rw [← suf_shift]
    exact h.trans (pre_drop j (mem_occ.mp hp).2)
  have := sub_len n1 sub
  rw [List.length_map] at this
  exact this
theorem cut_pre {g : Wd} {a b a' b' : Nat} (ha : a' ≤ a) (hb : b ≤ b') : cut g a b <+: (cut g a' b').drop (a - a') := by
  unfold cut
  rw [List.drop_drop, show a' + (a - a') = a by omega]
  exact pre_drop a (List.take_prefix_take_left hb)
/-- few places -/
def Few (ts : List Wd) (g : Wd) (n : Nat) (a b : Nat) : Prop := cnt ts (cut g a b) ≤ n
instance (ts : List Wd) (g : Wd) (n a b : Nat) : Decidable (Few ts g n a b) := by unfold Few; infer_instance
theorem few_mono {ts : List Wd} {g : Wd} {n a b a' b' : Nat} (ha : a' ≤ a) (hb : b ≤ b') (hab : a < b) (hbl : b ≤ g.length) (h : Few ts g n a b) : Few ts g n a' b' := by
  unfold Few at *
  refine Nat.le_trans (cnt_mono (fun e => ?_) (a - a') (cut_pre ha hb)) h
  have := cut_len g a b
  rw [e] at this; simp at this; omega
/-- just as many -/
theorem few_iff {ts : List Wd} {g : Wd} {a b : Nat} (hab : a < b) (hbl : b ≤ g.length) : Few ts g (cnt ts g) a b ↔ cnt ts (cut g a b) = cnt ts g := by
  unfold Few
  have : cnt ts g ≤ cnt ts (cut g a b) := by
    refine cnt_mono (fun e => ?_) a ?_
    · have := cut_len g a b
      rw [e] at this; simp at this; omega
    · unfold cut; exact pre_drop a (List.take_prefix b g)
  omega
/-- the least behinds -/
structure IsBeh (ts : List Wd) (g : Wd) (n : Nat) (F : List Nat) : Prop where
  len : F.length ≤ g.length
  all : ∀ a, a < F.length → Few ts g n a g.length
  stop : F.length < g.length → ¬ Few ts g n F.length g.length
  lo : ∀ (a b : Nat), F[a]? = some b → a < b ∧ b ≤ g.length ∧ Few ts g n a b
  least : ∀ (a b c : Nat), F[a]? = some b → a < c → c < b → ¬ Few ts g n a c
/-- the parts told by the behinds -/
def told (F : List Nat) : List (Nat × Nat) := (List.range F.length).filterMap fun a => match F[a]? with
  | some b => match F[a + 1]? with
    | some c => if b < c then some (a, b) else none
    | none => some (a, b)
  | none => none
theorem mem_told {F : List Nat} {a b : Nat} : (a, b) ∈ told F ↔ F[a]? = some b ∧ ∀ c, F[a + 1]? = some c → b < c := by
  unfold told
  rw [List.mem_filterMap]
  constructor
  · rintro ⟨x, hx, h⟩
    have hx := List.mem_range.mp hx
    cases e : F[x]? with
    | none => rw [e] at h; cases h
    | some y =>
      rw [e] at h
      cases e2 : F[x + 1]? with
      | none =>
        rw [e2] at h
        cases h
        exact ⟨e, fun c hc => by rw [e2] at hc; cases hc⟩
      | some z =>
        rw [e2] at h
        by_cases hlt : y < z
        · simp only [hlt, if_true] at h
          cases h
          exact ⟨e, fun c hc => by rw [e2] at hc; cases hc; exact hlt⟩
        · simp only [hlt, if_false] at h
          cases h
  · rintro ⟨h, k⟩
    refine ⟨a, List.mem_range.mpr (List.getElem?_eq_some_iff.mp h).1, ?_⟩
    rw [h]
    cases e2 : F[a + 1]? with
    | none => rfl
    | some z => simp only [k z e2, if_true]
/-- parts with few places -/
def likes (ts : List Wd) (g : Wd) : List (Nat × Nat) := (List.range g.length).flatMap fun a => ((List.range' (a + 1) (g.length - a)).filter fun b => decide (cnt ts (cut g a b) = cnt ts g)).map fun b => (a, b)
theorem mem_likes {ts : List Wd} {g : Wd} {a b : Nat} : (a, b) ∈ likes ts g ↔ a < b ∧ b ≤ g.length ∧ Few ts g (cnt ts g) a b := by
  unfold likes
  simp only [List.mem_flatMap, List.mem_range, List.mem_map, List.mem_filter, List.mem_range'_1, Prod.mk.injEq, decide_eq_true_eq]
  constructor
  · rintro ⟨x, hx, y, ⟨⟨h1, h2⟩, h3⟩, rfl, rfl⟩
    exact ⟨by omega, by omega, (few_iff (by omega) (by omega)).mpr h3⟩
  · rintro ⟨h1, h2, h3⟩
    exact ⟨a, by omega, b, ⟨⟨by omega, by omega⟩, (few_iff h1 h2).mp h3⟩, rfl, rfl⟩
def nlt (p q : Nat × Nat) : Prop := p.1 < q.1 ∨ (p.1 = q.1 ∧ p.2 < q.2)
theorem nlt_irr (p : Nat × Nat) : ¬ nlt p p := by unfold nlt; omega
theorem nlt_tr (p q r : Nat × Nat) : nlt p q → nlt q r → nlt p r := by unfold nlt; omega
theorem likes_rise (ts : List Wd) (g : Wd) : (likes ts g).Pairwise nlt := by
  unfold likes
  rw [List.pairwise_flatMap]
  refine ⟨fun a _ => ?_, ?_⟩
  · rw [List.pairwise_map]
    have h : (List.range' (a + 1) (g.length - a)).Pairwise (· < ·) := List.pairwise_lt_range'
    exact (h.filter _).imp fun h => .inr ⟨rfl, h⟩
  · refine List.pairwise_lt_range.imp fun {a b} h x hx y hy => ?_
    obtain ⟨j, _, rfl⟩ := List.mem_map.mp hx
    obtain ⟨k, _, rfl⟩ := List.mem_map.mp hy
    exact .inl h
theorem told_rise (F : List Nat) : (told F).Pairwise nlt := by
  unfold told
  rw [List.pairwise_filterMap]
  refine List.pairwise_lt_range.imp fun {a b} h x hx y hy => ?_
  have key : ∀ {a : Nat} {x : Nat × Nat}, (match F[a]? with
    | some b => match F[a + 1]? with
      | some c => if b < c then some (a, b) else none
      | none => some (a, b)
    | none => none) = some x → x.1 = a := by
    intro a x hx
    cases e : F[a]? with
    | none => rw [e] at hx; cases hx
    | some y =>
      rw [e] at hx
      cases e2 : F[a + 1]? with
      | none => rw [e2] at hx; cases hx; rfl
      | some z =>
        rw [e2] at hx
        by_cases hlt : y < z
        · simp only [hlt, if_true] at hx; cases hx; rfl
        · simp only [hlt, if_false] at hx; cases hx
  have e1 := key hx
  have e2 := key hy
  exact .inl (by omega)
/-- the least ones among the parts with few places, by plain counting -/
def leasts (ts : List Wd) (g : Wd) : List (Nat × Nat) := (likes ts g).filter fun p => decide (((likes ts g).filter fun q => decide (p.1 ≤ q.1 ∧ q.2 ≤ p.2)).length = 1)
theorem one_of {α : Type} {l : List α} (hn : l.Nodup) {a : α} (h : a ∈ l) : l.length = 1 ↔ ∀ b ∈ l, b = a := by
  constructor
  · intro e b hb
    match l, e with
    | [x], _ => rw [List.mem_singleton.mp hb, List.mem_singleton.mp h]
  · intro k
    match l, hn, h with
    | [x], _, _ => rfl
    | x :: y :: r, hn, _ =>
      have e1 := k x List.mem_cons_self
      have e2 := k y (List.mem_cons_of_mem _ List.mem_cons_self)
      have := (List.pairwise_cons.mp hn).1 y List.mem_cons_self
      exact absurd (e1.trans e2.symm) this
theorem leasts_told {ts : List Wd} {g : Wd} {F : List Nat} (B : IsBeh ts g (cnt ts g) F) : leasts ts g = told F := by
  have nd : (likes ts g).Nodup := (likes_rise ts g).imp (fun {a b} (h : nlt a b) => (fun (e : a = b) => nlt_irr a (by rw [← e] at h; exact h) : a ≠ b))
  refine rise_one nlt_irr nlt_tr ((likes_rise ts g).filter _) (told_rise F) fun ⟨a, b⟩ => ?_
  rw [mem_told]
  unfold leasts
  rw [List.mem_filter, mem_likes, decide_eq_true_eq]
  have self : (a, b) ∈ likes ts g → (a, b) ∈ (likes ts g).filter fun q => decide (a ≤ q.1 ∧ q.2 ≤ b) := fun h => List.mem_filter.mpr ⟨h, by simp⟩
  constructor
  · rintro ⟨⟨h1, h2, h3⟩, h4⟩
    have h5 := (one_of (nd.filter _) (self (mem_likes.mpr ⟨h1, h2, h3⟩))).mp h4
    have h6 : ∀ c d, c < d → a ≤ c → d ≤ b → Few ts g (cnt ts g) c d → (c, d) = (a, b) := fun c d hcd hac hdb hf =>
      h5 (c, d) (List.mem_filter.mpr ⟨mem_likes.mpr ⟨hcd, by omega, hf⟩, by simp only [decide_eq_true_eq]; exact ⟨hac, hdb⟩⟩)
    have hal : a < F.length := by
      refine Nat.lt_of_not_le fun hle => ?_
      exact B.stop (by omega) (few_mono (a := a) (b := b) hle h2 h1 h2 h3)
    have hF : F[a]? = some F[a] := List.getElem?_eq_getElem hal
    obtain ⟨l1, l2, l3⟩ := B.lo a _ hF
    have e : F[a] = b := by
      rcases Nat.lt_trichotomy F[a] b with z | z | z
      · have := h6 a F[a] l1 (Nat.le_refl _) (by omega) l3
        simp only [Prod.mk.injEq] at this
        omega
      · exact z
      · exact absurd h3 (B.least a _ b hF h1 z)
    refine ⟨by rw [hF, e], fun c hc => ?_⟩
    obtain ⟨m1, m2, m3⟩ := B.lo (a + 1) c hc
    refine Nat.lt_of_not_le fun hle => ?_
    have := h6 (a + 1) c m1 (by omega) hle m3
    simp only [Prod.mk.injEq] at this
    omega
  · rintro ⟨h, k⟩
    obtain ⟨l1, l2, l3⟩ := B.lo a b h
    refine ⟨⟨l1, l2, l3⟩, (one_of (nd.filter _) (self (mem_likes.mpr ⟨l1, l2, l3⟩))).mpr fun ⟨c, d⟩ hm => ?_⟩
    obtain ⟨hm1, hm2⟩ := List.mem_filter.mp hm
    obtain ⟨m1, m2, m3⟩ := mem_likes.mp hm1
    simp only [decide_eq_true_eq] at hm2
    obtain ⟨n1, n2⟩ := hm2
    rcases Nat.lt_or_eq_of_le n1 with z | z
    · exfalso
      -- then the next begin would do as well
      have f1 : Few ts g (cnt ts g) (a + 1) d := few_mono (a := c) (b := d) z (Nat.le_refl _) m1 m2 m3
      have hlt : a + 1 < F.length := by
        refine Nat.lt_of_not_le fun hle => ?_
        have hal := (List.getElem?_eq_some_iff.mp h).1
        have e : F.length = a + 1 := by omega
        refine B.stop (by omega) ?_
        rw [e]
        exact few_mono (a := a + 1) (b := d) (Nat.le_refl _) m2 (by omega) m2 f1
      have hF : F[a + 1]? = some F[a + 1] := List.getElem?_eq_getElem hlt
      have := k _ hF
      exact B.least (a + 1) _ d hF (by omega) (by omega) f1
    · subst z
      have : ¬ d < b := fun hlt => B.least a b d h m1 hlt m3
      simp only [Prod.mk.injEq, true_and]
      omega
end EP
end
section
set_option linter.all false
set_option maxRecDepth 100000
set_option maxHeartbeats 4000000
/-! EpR1: sorted of data of any length: of a list, of a dict's text keys, of what is gathered from anything. -/
namespace EpR
open PySem PySem.W PySem.Calls PyProof.Rows L2

section
variable {prog : Program} {w : World} {A : Around} {E : Value → Shared → Prop} {s : Shared}
/-- sorted(x), x gathered to values that read as data without lists -/
theorem sorted_coll {x : Value} {Q : Value → Shared → Prop} {Good : List Value → Shared → Prop} (hcol : wpAny (model prog w) A.in1 (collect x) Good E s)
    (hg : ∀ vs s1, Good vs s1 → ∃ (β : Type) (enc : β → PyData) (R : Value → β → Prop) (bs : List β), EachIs R vs bs ∧ EachIs (fun v b => Reads s1.heap v (enc b) []) vs bs ∧ AllAlike (bs.map enc) ∧ Sortable (bs.map enc) ∧
      bs.length ≤ sizeLine ∧ (∀ b, b ∈ bs → A.units + 3 + (enc b).depth < cLine) ∧
      ∀ out h' p c, EachIs R out (bs.mergeSort (dataLe false enc)) → (∀ b o, s1.heap.get? b = some o → h'.get? b = some o) → s1.heap.objs.size ≤ p → h'.get? p = some (seqObj "list" out.toArray c) → Q (.ref p) { s1 with heap := h' }) :
    wpAny (model prog w) A (call (.builtin "sorted") [x]) Q E s := by
  refine Calls.call_function_entry kind_sorted plain_sorted entry_sorted (args_sorted1 _) ?_
  unfold Builtin.«sorted»
  refine wpAny_bind (m := checkCount "sorted" 1 1 _) (wpAny_pure ?_)
  refine wpAny_bind (thn hcol fun vs s1 good => ?_)
  obtain ⟨β, enc, R, bs, e, er, hal, hk, hL, hu, q⟩ := hg vs s1 good
  have hlen : vs.length ≤ sizeLine := by rw [e.length]; exact hL
  refine wpAny_bind (wpAny_newList ?_ hlen)
  have ho : (s1.heap.push { cls := .type "list", data := .seq vs.toArray }).get? s1.heap.objs.size = some (seqObj "list" vs.toArray 0) := Heap.get?_push_size _ rfl
  refine wpAny_bind (wpAny_holding (list_sort_data (s := { s1 with heap := s1.heap.push { cls := .type "list", data := .seq vs.toArray } }) (enc := enc) (R := R) (bs := bs) ho e
    (er.mono fun v b r => ⟨[], PyProof.Rows.Reads.keeps (fun _ _ q => Heap.get?_push_of_some _ q) r, List.not_mem_nil⟩) hal hk hL (fun b hb => ?_) fun out hl he => ?_))
  · have := hu b hb
    show A.units + 1 + 1 + (enc b).depth < cLine
    omega
  · obtain ⟨c, hc⟩ := sortedHeap_at (vs := vs) (out := out.toArray) ho
    refine wpAny_pure ⟨_, rfl, q out _ s1.heap.objs.size c he (fun b o z => ?_) (Nat.le_refl _) hc⟩
    have hlt := Heap.lt_size z
    show (sortedHeap _ _ _ _).get? b = some o
    rw [sortedHeap_old (Nat.ne_of_lt hlt) (by rw [size_push']; exact Nat.lt_succ_of_lt hlt)]
    exact Heap.get?_push_of_some _ z
end

/-! ### data of values, without lists -/
inductive Flat (K : PySem.W.Frag) (H : Hp) : V → PyData → Prop
  | int (i : Int) : Flat K H (.int i) (.int i)
  | str (x : Str) : Flat K H (.str x) (.str x)
  | pair {a : Addr} {x y : V} {d e : PyData} : SqT K H a [x, y] → Flat K H x d → Flat K H y e → Flat K H (.ref a) (.tuple [d, e])
theorem vals_two {x y : V} {us : List Value} (r : Vals [x, y] us) : ∃ u v, us = [u, v] ∧ RelV x u ∧ RelV y v := by
  cases r with
  | cons r1 r2 =>
    cases r2 with
    | cons r3 r4 =>
      cases r4
      exact ⟨_, _, rfl, r1, r3⟩
section
variable {X : Cx} {pins : List (Addr × Obj)} {σ : L2.St} {H : Hp} {s : Shared}
theorem Flat.reads (I : Inv X pins σ H s) {x : V} {d : PyData} (f : Flat X.K H x d) : ∀ {u : Value}, RelV x u → Reads s.heap u d [] := by
  induction f with
  | int i => rintro u ⟨t, rfl⟩; exact .int _ _
  | str x => rintro u ⟨t, rfl⟩; exact .str _ _
  | @pair a x y d e h _ _ ih1 ih2 =>
    intro u r
    obtain rfl : u = Value.ref a := r
    obtain ⟨its, rv, ⟨o, ho, hc, n, hd⟩, _⟩ := I.tuple h
    obtain ⟨u1, u2, rfl, r1, r2⟩ := vals_two rv
    refine .tuple ho hc hd ?_
    have h1 := ih1 r1
    have h2 := ih2 r2
    have := ReadsAll.cons h1 (ReadsAll.cons h2 ReadsAll.nil)
    simpa using this
end
theorem each_of {β : Type} {R : Value → β → Prop} {val : β → V} {bs : List β} (h : ∀ b u, b ∈ bs → RelV (val b) u → R u b) : ∀ {us : List Value}, Vals (bs.map val) us → EachIs R us bs := by
  induction bs with
  | nil => intro us r; cases r; exact .nil
  | cons b bs ih =>
    intro us r
    cases r with
    | cons r1 r2 => exact .cons (h _ _ List.mem_cons_self r1) (ih (fun b u hb => h b u (List.mem_cons_of_mem _ hb)) r2)
theorem vals_each {β : Type} {val : β → V} : ∀ {us : List Value} {bs : List β}, EachIs (fun u b => RelV (val b) u) us bs → Vals (bs.map val) us
  | _, _, .nil => .nil
  | _, _, .cons h t => .cons h (vals_each t)
theorem sort_facts {β : Type} (enc : β → PyData) (bs : List β) : (bs.mergeSort (dataLe false enc)).Perm bs ∧ (bs.mergeSort (dataLe false enc)).Pairwise (fun a b => dataLe false enc a b = true) :=
  ⟨List.mergeSort_perm _ _, sort_pairwise (sortLe_total (listOrd itemOrd) false fun b => keyToks (enc b)) bs⟩

/-! ### sorted(xs) -/
/-- xs a list of the values val b, b of bs, that read as enc b: a new list of them in order -/
def rSortD (K : PySem.W.Frag) : List V → Hp → VK → Prop := fun vs H Q => ∃ (β : Type) (val : β → V) (enc : β → PyData) (bs : List β) (a : Addr), vs = [V.ref a] ∧ SqL K H a (bs.map val) ∧ (∀ b ∈ bs, Flat K H (val b) (enc b)) ∧
  AllAlike (bs.map enc) ∧ Sortable (bs.map enc) ∧ (∀ b ∈ bs, (enc b).depth ≤ 8) ∧ ∀ (ys : List β) (p : Addr), ys.Perm bs → ys.Pairwise (fun a b => dataLe false enc a b = true) → H p = none → Q (.ref p) (upd H p (.lst (ys.map val)))
section
variable {X : Cx}
theorem cr_sortD (hu : X.A.units + 64 < cLine) : CallR X (.builtin "sorted") (rSortD X.K) := by
  intro pins s σ H vs us Q I r h
  obtain ⟨β, val, enc, bs, a, rfl, hs, hf, hal, hk, hd, q⟩ := h
  obtain ⟨its, rv, hl, hz⟩ := I.list hs
  rw [List.length_map] at hz
  rw [Vals.ref1 r]
  have e : EachIs (fun u b => RelV (val b) u) its bs := each_of (fun b u _ r => r) rv
  have er : EachIs (fun u b => ∃ as, Reads s.heap u (enc b) as) its bs := each_of (fun b u hb r => ⟨[], (hf b hb).reads I r⟩) rv
  refine sorted_data (R := fun u b => RelV (val b) u) (enc := enc) hl.isList e er hal hk hz (fun b hb => ?_) fun out hol he => ?_
  · have := hd b hb
    omega
  · obtain ⟨ep, he'⟩ := sortedAll_at s.heap its out.toArray
    obtain ⟨f1, f2⟩ := sort_facts enc bs
    have hlen : ((bs.mergeSort (dataLe false enc)).map val).length ≤ sizeLine := by rw [List.length_map, f1.length_eq]; exact hz
    exact ⟨.ref _, upd H (s.heap.objs.size + 1) (.lst ((bs.mergeSort (dataLe false enc)).map val)), I.laid (t' := s.toks) (fun _ _ => sortedAll_old) (Nat.le_succ _) ⟨hlen, out, ep, vals_each he, he'⟩, rfl, q _ _ f1 f2 (I.hok.fresh (Nat.le_succ _))⟩
/-- sorted(d), d's keys texts -/
def rSortK : List V → Hp → VK → Prop := fun vs H Q => ∃ (a : Addr) (kvs : List (Key × V)) (ks : List Str), vs = [V.ref a] ∧ Rd H a (.dK kvs) ∧ kvs.map (·.1) = ks.map Sum.inr ∧
  ∀ (ys : List Str) (p : Addr), ys.Perm ks → ys.Pairwise (fun a b => a.cps.toList ≤ b.cps.toList) → H p = none → Q (.ref p) (upd H p (.lst (ys.map V.str)))
theorem cr_sortK (hc : X.calm = true) (hu : X.A.units + 64 < cLine) : CallR X (.builtin "sorted") rSortK := by
  intro pins s σ H vs us Q I r h
  obtain ⟨a, kvs, ks, rfl, hd, hks, q⟩ := h
  obtain ⟨u, rfl, rx⟩ := vals1 r
  cases rx
  obtain ⟨z, lo, ws, rel, dd⟩ := dk_rd I.hok hd
  obtain ⟨ep, hat⟩ := dd.dictAt
  have hkeys : ws.map (·.1) = ks.map Sum.inr := rel.keys.symm.trans hks
  have hl : ws.length = ks.length := by
    have e := congrArg List.length hkeys
    rw [List.length_map, List.length_map] at e
    exact e
  have hz : ws.length ≤ sizeLine := by rw [← rel.length]; exact z
  refine sorted_coll (Good := fun vs s1 => (∀ b o, s.heap.get? b = some o → s1.heap.get? b = some o) ∧ (∃ h' tk, s1 = { s with heap := h', toks := tk }) ∧ Vals (ks.map V.str) vs)
    (PySem.W.kdu_collect (A := X.A.in1) (PySem.W.kdl_dict (knd := mixKind X.prog X.w) (kvs := ws) (ep := ep) lo) (I.ok.hd hc) hat hz fun h' tk acc hk hacc => ⟨hk, ⟨h', tk, rfl⟩, ?_⟩) ?_
  · have hal : acc.toList.length = ks.length := by rw [Array.length_toList, hacc.1, hl]
    refine vals_of_strs (strs_at hal fun j v e => ?_)
    obtain ⟨k, x, e1, e2⟩ := hacc.2 j v (by rw [← Array.getElem?_toList]; exact e)
    have e3 : (ws.map (·.1))[j]? = some k := by rw [List.getElem?_map, e1]; rfl
    rw [hkeys, List.getElem?_map] at e3
    cases e4 : ks[j]? with
    | none => rw [e4] at e3; cases e3
    | some y =>
      rw [e4] at e3
      have e5 : Sum.inr y = k := Option.some.inj e3
      subst e5
      obtain ⟨t, ev⟩ := Value.isStrOf_shape (x := y) (v := v) e2
      exact ⟨y, t, rfl, ev⟩
  · rintro vs s1 ⟨k1, ⟨h', tk, rfl⟩, rv⟩
    have J : Inv X pins σ H { s with heap := h', toks := tk } := I.kept (t' := tk) k1
    refine ⟨Str, fun x => .str x, fun u x => RelV (.str x) u, ks, each_of (fun b u _ r => r) rv, each_of (fun b u _ r => (Flat.str b).reads (H := H) J r) rv, AllAlike.of fun b b' => rfl, Sortable.others fun b => ⟨nofun, nofun⟩, by rw [← hl]; exact hz, fun b _ => ?_, fun out h2 p c he k2 hp hc2 => ?_⟩
    · show X.A.units + 3 + 0 < cLine
      omega
    · obtain ⟨f1, f2⟩ := sort_facts (fun x : Str => PyData.str x) ks
      refine ⟨.ref p, upd H p (.lst ((ks.mergeSort (dataLe false fun x => .str x)).map V.str)), J.laid (t' := tk) k2 hp ⟨?_, out, c, vals_each he, hc2⟩, rfl, q _ p f1 (f2.imp fun {a b} h => ?_) (J.hok.fresh hp)⟩
      · rw [List.length_map, f1.length_eq, ← hl]; exact hz
      · rw [dataLe_str] at h
        exact of_decide_eq_true h
end
end EpR
end
section
set_option linter.all false
set_option maxRecDepth 100000
set_option maxHeartbeats 4000000
/-! EpR2: sorted(zip(xs, ys)). -/
namespace EpR
open PySem PySem.W PySem.Calls PyProof.Rows L2

theorem zip_no_len : typeLookup (.type "zip") "__len__" = pure none := am_miss_of_fast (by decide +kernel)
theorem zip_no_hint : typeLookup (.type "zip") "__length_hint__" = pure none := am_miss_of_fast (by decide +kernel)

/-- a zip that has gone i turns, its pairs kept elsewhere -/
def ZSt (z TI TO i1 i2 l1 l2 : Addr) (xs ys : Array Value) (S : Addr) (i : Nat) (h : Heap) : Prop :=
  IsPair h TI (.ref i1) (.ref i2) ∧ h.IsListIter i1 l1 i ∧ h.IsListIter i2 l2 i ∧ h.IsList l1 xs ∧ h.IsList l2 ys ∧
  ((IsZip h z TI TO .none ∧ ∃ a b, IsPair h TO a b) ∨ ∃ T f oT, IsZipHeld h z TI TO T f ∧ h.get? T = some oT ∧ T ≠ z ∧ T ≠ i1 ∧ T ≠ i2 ∧ T ≠ S)
structure ZOff (z TI TO i1 i2 l1 l2 S : Addr) : Prop where
  a : ZipApart z TI TO i1 i2 l1 l2
  zS : z ≠ S
  TIS : TI ≠ S
  TOS : TO ≠ S
  i1S : i1 ≠ S
  i2S : i2 ≠ S
  l1S : l1 ≠ S
  l2S : l2 ≠ S
section
variable {prog : Program} {w : World} {A : Around} {E : Value → Shared → Prop} {s : Shared} {z TI TO i1 i2 l1 l2 S : Addr} {xs ys : Array Value} {i : Nat}
theorem ZSt.frame (D : ZOff z TI TO i1 i2 l1 l2 S) {h h' : Heap} (st : ZSt z TI TO i1 i2 l1 l2 xs ys S i h) (k : ∀ b o, b ≠ S → h.get? b = some o → h'.get? b = some o) : ZSt z TI TO i1 i2 l1 l2 xs ys S i h' := by
  obtain ⟨p, q1, q2, r1, r2, c⟩ := st
  refine ⟨k _ _ D.TIS p, q1.at fun o e => k _ o D.i1S e, q2.at fun o e => k _ o D.i2S e, r1.at fun o e => k _ o D.l1S e, r2.at fun o e => k _ o D.l2S e, ?_⟩
  rcases c with ⟨u, a, b, v⟩ | ⟨T, f, oT, u, v, n1, n2, n3, n4⟩
  · exact .inl ⟨k _ _ D.zS u, a, b, k _ _ D.TOS v⟩
  · exact .inr ⟨T, f, oT, k _ _ D.zS u, k _ _ n4 v, n1, n2, n3, n4⟩
theorem ZSt.item (D : ZOff z TI TO i1 i2 l1 l2 S) {x y : Value} {Q : Option Value → Shared → Prop} (st : ZSt z TI TO i1 i2 l1 l2 xs ys S i s.heap) (hx : xs[i]? = some x) (hy : ys[i]? = some y) (hS : S < s.heap.objs.size)
    (hQ : ∀ h', ZSt z TI TO i1 i2 l1 l2 xs ys S (i + 1) h' → IsPair h' s.heap.objs.size x y → h'.objs.size = s.heap.objs.size + 1 → (∀ b o, b ≠ z → b ≠ TO → b ≠ i1 → b ≠ i2 → s.heap.get? b = some o → h'.get? b = some o) →
      Q (some (.ref s.heap.objs.size)) { s with heap := h' }) : wpAny (model prog w) A (pyNext (.ref z)) Q E s := by
  obtain ⟨p, q1, q2, r1, r2, c⟩ := st
  have up : ∀ {c : Addr} {o : Obj}, s.heap.get? c = some o → s.heap.objs.size ≠ c := fun e => Nat.ne_of_gt (Heap.lt_size e)
  have u1 : s.heap.objs.size ≠ i1 := let ⟨_, e, _⟩ := q1; up e
  have u2 : s.heap.objs.size ≠ i2 := let ⟨_, e, _⟩ := q2; up e
  rcases c with ⟨u, a, b, v⟩ | ⟨T, f, oT, u, v, n1, n2, n3, n4⟩
  · refine wpAny_pyNext_zip_item D.a u p v q1 q2 r1 r2 hx hy fun h' a1 a2 a3 a4 a5 a6 k => hQ h' ⟨k _ _ D.a.TIz D.a.TITO D.a.TIi1 D.a.TIi2 p, a3, a4, r1.at fun o e => k _ o D.a.l1z D.a.l1TO D.a.l1i1 D.a.l1i2 e, r2.at fun o e => k _ o D.a.l2z D.a.l2TO D.a.l2i1 D.a.l2i2 e, .inr ?_⟩ a5 a6 k
    exact ⟨s.heap.objs.size, false, _, a1, a5, up u, u1, u2, Nat.ne_of_gt hS⟩
  · refine wpAny_pyNext_zip_item_held D.a u v p q1 q2 r1 r2 hx hy fun h' a1 a3 a4 a5 a6 k => hQ h' ⟨k _ _ D.a.TIz D.a.TIi1 D.a.TIi2 p, a3, a4, r1.at fun o e => k _ o D.a.l1z D.a.l1i1 D.a.l1i2 e, r2.at fun o e => k _ o D.a.l2z D.a.l2i1 D.a.l2i2 e, .inr ?_⟩ a5 a6 fun b o m1 _ m3 m4 e => k b o m1 m3 m4 e
    exact ⟨T, true, oT, a1, k _ _ n1 n2 n3 v, n1, n2, n3, n4⟩
theorem ZSt.done (hh : A.handled = none) (D : ZOff z TI TO i1 i2 l1 l2 S) {Q : Option Value → Shared → Prop} (st : ZSt z TI TO i1 i2 l1 l2 xs ys S i s.heap) (hend : xs[i]? = none ∨ ys[i]? = none)
    (hQ : ∀ h', (∀ b o, b ≠ z → b ≠ TI → b ≠ TO → b ≠ i1 → b ≠ i2 → s.heap.get? b = some o → h'.get? b = some o) → Q none { s with heap := h' }) : wpAny (model prog w) A (pyNext (.ref z)) Q E s := by
  obtain ⟨p, q1, q2, r1, r2, c⟩ := st
  rcases c with ⟨u, a, b, v⟩ | ⟨T, f, oT, u, v, _, _, _, _⟩
  · exact wpAny_pyNext_zip_end hh D.a u p v q1 q2 r1 r2 hend fun h' k => hQ h' fun b o n1 n2 n3 n4 n5 e => k b o n1 n3 n4 n5 e
  · exact wpAny_pyNext_zip_end_held hh D.a u v p q1 q2 r1 r2 hend fun h' k => hQ h' fun b o n1 n2 n3 n4 n5 e => k b o n1 n4 n5 e
/-- the pairs that were made: as, in order, above lo -/
structure ZMade (xs ys : Array Value) (lo : Addr) (h : Heap) (as : List Addr) : Prop where
  rise : as.Pairwise (· < ·)
  above : ∀ a ∈ as, lo ≤ a
  pairs : ∀ (j : Nat) (a : Addr), as[j]? = some a → ∃ x y, xs[j]? = some x ∧ ys[j]? = some y ∧ IsPair h a x y
theorem zip_loop {R : Result → Shared → Prop} (hh : A.handled = none) (D : ZOff z TI TO i1 i2 l1 l2 S) (hn : xs.size ≤ sizeLine) (hxy : xs.size = ys.size) (res : Value) {lo : Addr} (lz : z < lo) (lTI : TI < lo) (lTO : TO < lo) (li1 : i1 < lo) (li2 : i2 < lo) (lS : S < lo) {h₁ : Heap}
    (hR : ∀ h' acc c as, (∀ b o, b ≠ S → b ≠ z → b ≠ TI → b ≠ TO → b ≠ i1 → b ≠ i2 → h₁.get? b = some o → h'.get? b = some o) → h'.get? S = some { cls := .type "list", dict := none, data := .seq acc c, slots := #[] } → as.length = xs.size → ZMade xs ys lo h' as →
      acc.toList = as.map Value.ref → R (.ok (.ret res)) { s with heap := h' }) :
    ∀ (k i : Nat) (h : Heap) (c : Nat) (acc : Array Value) (as : List Addr), xs.size - i = k → i ≤ xs.size → lo ≤ h.objs.size → ZSt z TI TO i1 i2 l1 l2 xs ys S i h → (∀ b o, b ≠ S → b ≠ z → b ≠ TI → b ≠ TO → b ≠ i1 → b ≠ i2 → h₁.get? b = some o → h.get? b = some o) →
      h.get? S = some { cls := .type "list", dict := none, data := .seq acc c, slots := #[] } → acc.toList = as.map Value.ref → as.length = i → ZMade xs ys lo h as →
      codeAny (model prog w) A (.builtin "list.extend.loop" ⟨[.ref S, .ref z, res], []⟩) R { s with heap := h } := by
  have away : ∀ {a : Addr}, lo ≤ a → a ≠ S ∧ a ≠ z ∧ a ≠ TI ∧ a ≠ TO ∧ a ≠ i1 ∧ a ≠ i2 := fun {a} ha =>
    ⟨Nat.ne_of_gt (Nat.lt_of_lt_of_le lS ha), Nat.ne_of_gt (Nat.lt_of_lt_of_le lz ha), Nat.ne_of_gt (Nat.lt_of_lt_of_le lTI ha), Nat.ne_of_gt (Nat.lt_of_lt_of_le lTO ha), Nat.ne_of_gt (Nat.lt_of_lt_of_le li1 ha), Nat.ne_of_gt (Nat.lt_of_lt_of_le li2 ha)⟩
  intro k
  induction k with
  | zero =>
    intro i h c acc as hk hi hlo st keep hS hacc hal hG
    have e : i = xs.size := by omega
    refine codeAny_builtin PySem.F.entry_extend_loop ?_
    rw [Around.under_plainId PySem.F.plain_extend_loop _]
    show wpAny _ A.in1 (pyNext (.ref z) >>= _) _ _ _
    refine wpAny_bind (ZSt.done (s := { s with heap := h }) (A := A.in1) hh D st (.inl (Array.getElem?_eq_none (by omega))) fun h' k' => ?_)
    refine wpAny_pure (hR h' acc c as (fun b o n0 n1 n2 n3 n4 n5 q => k' b o n1 n2 n3 n4 n5 (keep b o n0 n1 n2 n3 n4 n5 q)) (k' S _ D.zS.symm D.TIS.symm D.TOS.symm D.i1S.symm D.i2S.symm hS) (by omega) ⟨hG.rise, hG.above, fun j a hj => ?_⟩ hacc)
    obtain ⟨x, y, e1, e2, e3⟩ := hG.pairs j a hj
    obtain ⟨n0, n1, n2, n3, n4, n5⟩ := away (hG.above a (List.mem_of_getElem? hj))
    exact ⟨x, y, e1, e2, k' a _ n1 n2 n3 n4 n5 e3⟩
  | succ k ih =>
    intro i h c acc as hk hi hlo st keep hS hacc hal hG
    have hlt : i < xs.size := by omega
    have hx : xs[i]? = some xs[i] := Array.getElem?_eq_getElem hlt
    have hy : ys[i]? = some (ys[i]'(by omega)) := Array.getElem?_eq_getElem (by omega)
    generalize xs[i] = x at hx
    generalize ys[i]'(by omega) = y at hy
    have hsz : acc.size = i := by rw [← Array.length_toList, hacc, List.length_map, hal]
    refine codeAny_builtin PySem.F.entry_extend_loop ?_
    rw [Around.under_plainId PySem.F.plain_extend_loop _]
    show wpAny _ A.in1 (pyNext (.ref z) >>= _) _ _ _
    refine wpAny_bind (ZSt.item (s := { s with heap := h }) D st hx hy (Heap.lt_size hS) fun h' st' hp hz k' => ?_)
    dsimp only at hp hz k' ⊢
    have hS' := k' S _ D.zS.symm D.TOS.symm D.i1S.symm D.i2S.symm hS
    have up : ∀ b o, b ≠ S → h'.get? b = some o → (h'.update S (Obj.mapSeq (·.push (Value.ref h.objs.size)))).get? b = some o := fun b o hb e => (Heap.get?_update_other _ _ (Ne.symm hb)).trans e
    have aw := away hlo
    show wpAny _ A.in1 (updateSeq S (·.push (Value.ref h.objs.size)) >>= _) _ _ _
    refine wpAny_bind ?_
    refine wpAny_updateSeq hS' rfl (wpAny_pure ⟨plainId_quiet PySem.F.plain_extend_loop _, ih (i + 1) _ _ (acc.push (Value.ref h.objs.size)) (as ++ [h.objs.size]) (by omega) hlt ?_ (st'.frame D up)
      (fun b o n0 n1 n2 n3 n4 n5 q => up b o n0 (k' b o n1 n3 n4 n5 (keep b o n0 n1 n2 n3 n4 n5 q))) (Heap.get?_update_self _ hS' rfl) (by rw [Array.toList_push, hacc, List.map_append]; rfl) (by rw [List.length_append, hal]; rfl) ⟨?_, ?_, ?_⟩⟩) (by rw [hsz]; omega) (by show (acc.push (Value.ref h.objs.size)).size ≤ sizeLine + 1; rw [Array.size_push, hsz]; omega)
    · rw [Heap.size_update, hz]; exact Nat.le_succ_of_le hlo
    · refine List.pairwise_append.mpr ⟨hG.rise, List.pairwise_singleton _ _, fun a ha b hb => ?_⟩
      rw [List.mem_singleton.mp hb]
      obtain ⟨j, hj⟩ := List.mem_iff_getElem?.mp ha
      obtain ⟨_, _, _, _, e3⟩ := hG.pairs j a hj
      exact Heap.lt_size e3
    · intro a ha
      rcases List.mem_append.mp ha with ha | ha
      · exact hG.above a ha
      · rw [List.mem_singleton.mp ha]; exact hlo
    · intro j b hj
      rcases Nat.lt_trichotomy j as.length with h1 | h1 | h1
      · rw [List.getElem?_append_left h1] at hj
        obtain ⟨x', y', e1, e2, e3⟩ := hG.pairs j b hj
        obtain ⟨n0, n1, n2, n3, n4, n5⟩ := away (hG.above b (List.mem_of_getElem? hj))
        exact ⟨x', y', e1, e2, up b _ n0 (k' b _ n1 n3 n4 n5 e3)⟩
      · subst h1
        have hb : h.objs.size = b := by simpa using hj
        subst hb
        rw [hal]
        exact ⟨x, y, hx, hy, up _ _ aw.1 hp⟩
      · have hnone : (as ++ [h.objs.size])[j]? = none := List.getElem?_eq_none (by rw [List.length_append, List.length_singleton]; omega)
        rw [hnone] at hj; cases hj
/-- what a new zip of two lists is gathered to -/
theorem collect_zip {Q : List Value → Shared → Prop} (hh : A.handled = none) (D0 : ZipApart z TI TO i1 i2 l1 l2) (hn : xs.size ≤ sizeLine) (hxy : xs.size = ys.size) (hz : IsZip s.heap z TI TO .none) (hTI : IsPair s.heap TI (.ref i1) (.ref i2)) (hTO : IsPair s.heap TO .none .none)
    (h1 : s.heap.IsListIter i1 l1 0) (h2 : s.heap.IsListIter i2 l2 0) (hl1 : s.heap.IsList l1 xs) (hl2 : s.heap.IsList l2 ys)
    (hQ : ∀ h' as, (∀ b o, b ≠ z → b ≠ TI → b ≠ TO → b ≠ i1 → b ≠ i2 → s.heap.get? b = some o → h'.get? b = some o) → as.length = xs.size → ZMade xs ys s.heap.objs.size h' as → s.heap.objs.size ≤ h'.objs.size → Q (as.map Value.ref) { s with heap := h' }) :
    wpAny (model prog w) A (collect (.ref z)) Q E s := by
  have lt : ∀ {c : Addr} {o : Obj}, s.heap.get? c = some o → c < s.heap.objs.size := fun e => Heap.lt_size e
  have li1 : i1 < s.heap.objs.size := let ⟨_, e, _⟩ := h1; lt e
  have li2 : i2 < s.heap.objs.size := let ⟨_, e, _⟩ := h2; lt e
  have ll1 : l1 < s.heap.objs.size := let ⟨_, e, _⟩ := hl1; lt e
  have ll2 : l2 < s.heap.objs.size := let ⟨_, e, _⟩ := hl2; lt e
  have D : ZOff z TI TO i1 i2 l1 l2 s.heap.objs.size := ⟨D0, Nat.ne_of_lt (lt hz), Nat.ne_of_lt (lt hTI), Nat.ne_of_lt (lt hTO), Nat.ne_of_lt li1, Nat.ne_of_lt li2, Nat.ne_of_lt ll1, Nat.ne_of_lt ll2⟩
  unfold collect
  refine wpAny_bind (wpAny_runValue (codeAny_builtin PySem.F.entry_proto_collect ?_))
  rw [Around.under_plainId PySem.F.plain_proto_collect _]
  show wpAny _ A.in1 (newList [] >>= fun l => again (.builtin "list.__iadd__" ⟨[l, .ref z], []⟩)) _ _ s
  refine wpAny_bind (wpAny_newObj_type ?_)
  refine wpAny_pure ⟨plainId_quiet PySem.F.plain_list_iadd _, codeAny_builtin PySem.F.entry_list_iadd ?_⟩
  rw [Around.under_plainId PySem.F.plain_list_iadd _]
  show wpAny _ A.in1 (Builtin.List.listExtendWith (.ref s.heap.objs.size) (.ref z) (.ref s.heap.objs.size)) _ _ _
  have k0 : ∀ b o, s.heap.get? b = some o → (s.heap.push { cls := .type "list", data := .seq ([] : List Value).toArray }).get? b = some o := fun b o e => Heap.get?_push_of_some _ e
  have hS : (s.heap.push { cls := .type "list", data := .seq ([] : List Value).toArray }).get? s.heap.objs.size = some { cls := .type "list", data := .seq #[] } := Heap.get?_push_size _ rfl
  have hT : ∀ h : Heap, IsZip h z TI TO .none → Shared.TypeIs { s with heap := h } (.ref z) "zip" := fun h e => ⟨_, e, rfl⟩
  unfold Builtin.List.listExtendWith
  refine wpAny_bind (wpAny_typeOf (hT _ (k0 _ _ hz)) ?_)
  have e1 : Builtin.List.listSameRef (.ref s.heap.objs.size) (.ref z) = false := by simp [Builtin.List.listSameRef, D.zS.symm]
  have e2 : (Value.type "zip" == Value.type "list") = false := by decide
  have e3 : (Value.type "zip" == Value.type "tuple") = false := by decide
  simp only [e1, e2, e3, Bool.or_false, Bool.false_eq_true, if_false]
  refine wpAny_bind (wpAny_pyIter_zip (k0 _ _ hz) ?_)
  refine wpAny_bind (wpAny_holding ?_)
  unfold Builtin.List.listLengthHint
  refine wpAny_bind (wpAny_specialOf (hT _ (k0 _ _ hz)) zip_no_len ?_)
  show wpAny _ A.in1 (specialOf (Value.ref z) (Str.ofString "__length_hint__") >>= _) _ _ _
  refine wpAny_bind (wpAny_specialOf (hT _ (k0 _ _ hz)) zip_no_hint ?_)
  refine wpAny_pure ?_
  show wpAny _ A.in1 (rule "list.extend.makes-room" >>= fun _ => Builtin.List.listTouch (.ref s.heap.objs.size) >>= fun _ =>
    again (.builtin "list.extend.loop" ⟨[.ref s.heap.objs.size, .ref z, .ref s.heap.objs.size], []⟩)) _ _ _
  refine wpAny_bind (wpAny_rule ?_)
  refine wpAny_bind ?_
  show wpAny _ A.in1 (updateSeq s.heap.objs.size (·.push .none) >>= fun _ => updateSeq s.heap.objs.size (·.pop)) _ _ _
  refine wpAny_bind (wpAny_updateSeq hS rfl ?_)
  have hS2 := Heap.get?_update_self (Obj.mapSeq (·.push Value.none)) hS rfl
  refine wpAny_updateSeq hS2 rfl ?_
  have hS3 := Heap.get?_update_self (Obj.mapSeq (·.pop)) hS2 rfl
  have k3 : ∀ b o, b ≠ s.heap.objs.size → s.heap.get? b = some o →
      (((s.heap.push { cls := .type "list", data := .seq ([] : List Value).toArray }).update s.heap.objs.size (Obj.mapSeq (·.push Value.none))).update s.heap.objs.size (Obj.mapSeq (·.pop))).get? b = some o :=
    fun b o hb e => (Heap.get?_update_other _ _ (Ne.symm hb)).trans ((Heap.get?_update_other _ _ (Ne.symm hb)).trans (k0 b o e))
  have z3 : (((s.heap.push { cls := .type "list", data := .seq ([] : List Value).toArray }).update s.heap.objs.size (Obj.mapSeq (·.push Value.none))).update s.heap.objs.size (Obj.mapSeq (·.pop))).objs.size = s.heap.objs.size + 1 := by
    rw [Heap.size_update, Heap.size_update, Heap.size_push]
  generalize (((s.heap.push { cls := .type "list", data := .seq ([] : List Value).toArray }).update s.heap.objs.size (Obj.mapSeq (·.push Value.none))).update s.heap.objs.size (Obj.mapSeq (·.pop))) = h3 at hS3 k3 z3 ⊢
  have up : ∀ b o, s.heap.get? b = some o → h3.get? b = some o := fun b o e => k3 b o (Nat.ne_of_lt (lt e)) e
  refine wpAny_pure ⟨plainId_quiet PySem.F.plain_extend_loop _, ?_⟩
  refine zip_loop (s := s) (h₁ := s.heap) hh D hn hxy _ (lo := s.heap.objs.size + 1) (Nat.lt_succ_of_lt (lt hz)) (Nat.lt_succ_of_lt (lt hTI)) (Nat.lt_succ_of_lt (lt hTO)) (Nat.lt_succ_of_lt li1) (Nat.lt_succ_of_lt li2) (Nat.lt_succ_self _) (fun h' acc c as k hS' hl hG hacc => ?_)
    xs.size 0 h3 _ #[] [] (Nat.sub_zero _) (Nat.zero_le _) (Nat.le_of_eq z3.symm) ⟨up _ _ hTI, h1.at fun o e => up _ o e, h2.at fun o e => up _ o e, hl1.at fun o e => up _ o e, hl2.at fun o e => up _ o e, .inl ⟨up _ _ hz, _, _, up _ _ hTO⟩⟩
    (fun b o _ _ _ _ _ _ e => up b o e) hS3 rfl rfl ⟨List.Pairwise.nil, (fun _ ha => nomatch ha), (fun j a hj => by simp at hj)⟩
  show wpAny (model prog w) A (load s.heap.objs.size >>= _) _ _ { s with heap := h' }
  refine wpAny_bind (wpAny_load hS' ?_)
  show wpAny _ _ (pure acc.toList) _ _ _
  rw [hacc]
  refine wpAny_pure (hQ h' as (fun b o n1 n2 n3 n4 n5 e => k b o (Nat.ne_of_lt (lt e)) n1 n2 n3 n4 n5 e) hl ⟨hG.rise, fun a ha => Nat.le_of_succ_le (hG.above a ha), hG.pairs⟩ ?_)
  exact Nat.le_of_lt (Heap.lt_size hS')
end

/-! ### as a rule -/
theorem perm_zip {α β : Type} {as : List α} {bs : List β} (hl : as.length = bs.length) {zs : List (α × β)} (h : zs.Perm (as.zip bs)) : (zs.map Prod.snd).Perm bs := by
  have := h.map Prod.snd
  rw [List.map_snd_zip (by omega)] at this
  exact this
/-- sorted(zip(xs, ys)): xs the x b, ys the y b: new pairs of them, in order -/
def tSortZ (K : PySem.W.Frag) (ta : TA) : TE := fun σ H Q => ta σ H fun vs H1 => ∃ (β : Type) (x y : β → V) (dx dy : β → PyData) (bs : List β) (a b : Addr), vs = [V.ref a, V.ref b] ∧ SqL K H1 a (bs.map x) ∧ SqL K H1 b (bs.map y) ∧
  (∀ c ∈ bs, Flat K H1 (x c) (dx c) ∧ Flat K H1 (y c) (dy c)) ∧ AllAlike (bs.map fun c => .tuple [dx c, dy c]) ∧ (∀ c ∈ bs, (PyData.tuple [dx c, dy c]).depth ≤ 8) ∧
  ∀ (H' : Hp) (p : Addr) (zs : List (Addr × β)), Same H1 H' → H1 p = none → (zs.map Prod.snd).Perm bs → (zs.map Prod.snd).Pairwise (fun c d => dataLe false (fun c => .tuple [dx c, dy c]) c d = true) →
    H' p = some (.lst (zs.map fun z => V.ref z.1)) → (∀ z ∈ zs, H' z.1 = some (.tup [x z.2, y z.2])) → Q (.ref p) H'
theorem vals_refs : ∀ {as : List Addr} {us : List Value}, us = as.map Value.ref → Vals (as.map V.ref) us
  | [], _, rfl => .nil
  | a :: as, _, rfl => .cons rfl (vals_refs rfl)
theorem each_zip {β : Type} {R : Value → Addr × β → Prop} : ∀ {as : List Addr} {bs : List β}, as.length = bs.length → (∀ (j : Nat) a b, as[j]? = some a → bs[j]? = some b → R (.ref a) (a, b)) → EachIs R (as.map Value.ref) (as.zip bs)
  | [], [], _, _ => .nil
  | a :: as, b :: bs, hl, h => .cons (h 0 a b rfl rfl) (each_zip (by simpa using hl) fun j a b ha hb => h (j + 1) a b (by simpa using ha) (by simpa using hb))
  | [], _ :: _, hl, _ => by simp at hl
  | _ :: _, [], hl, _ => by simp at hl
theorem vals_at {β : Type} {x : β → V} {bs : List β} {us : List Value} (r : Vals (bs.map x) us) {j : Nat} {b : β} {u : Value} (hb : bs[j]? = some b) (hu : us[j]? = some u) : RelV (x b) u := by
  obtain ⟨u', e, ru⟩ := Vals.get (i := j) (x := x b) r (by rw [List.getElem?_map, hb]; rfl)
  rw [hu] at e; cases e
  exact ru
theorem refs_out {β : Type} : ∀ {out : List Value} {zs : List (Addr × β)}, EachIs (fun u z => u = Value.ref z.1) out zs → out = (zs.map Prod.fst).map Value.ref
  | _, _, .nil => rfl
  | _, _, .cons h t => by rw [h, refs_out t]; rfl
section
variable {X : Cx}
theorem pe_sortZ {e e2 : Expr} {ta : TA} {p p2 q pos : Pos} (hc : X.calm = true) (hu : X.A.units + 64 < cLine) (hg : Gl X "sorted") (hm : X.mg "sorted" = none) (hg2 : Gl X "zip") (hm2 : X.mg "zip" = none) (ha : PA X [e, e2] ta)
    (hs : starEach [e, e2] X.env = (false, eval e X.env) :: starEach [e2] X.env := by rfl) (hpl : (backTo q (starEach [e2] X.env)).any (·.1) = false := by rfl) :
    PE X (.Call (.Name "sorted" p) [.Call (.Name "zip" p2) [e, e2] [] q] [] pos) (tSortZ X.K ta) := by
  refine ⟨fun pins s σ H Q I h => ?_⟩
  refine Call_ (ld_blt I hg hm boot_sorted ?_)
  refine PyProof.Rows.callWith_builtin1 (PyProof.Rows.args_cons ?_ rfl) rfl rfl
  refine Call_ (ld_blt I hg2 hm2 boot_zip ?_)
  refine PyProof.Rows.callWith_type1 (thn (ha.run q pins s σ H _ I h) fun us s1 ⟨vs, H1, I1, r1, q1⟩ => ?_) hs hpl
  obtain ⟨β, x, y, dx, dy, bs, a, b, rfl, hx, hy, hf, hal, hd, q2⟩ := q1
  obtain ⟨ua, ub, rfl, ra, rb⟩ := vals_two r1
  cases ra
  cases rb
  obtain ⟨its, rv, p1, hz1⟩ := I1.list hx
  obtain ⟨its2, rv2, p3, _⟩ := I1.list hy
  have la : a < s1.heap.objs.size := p1.lt
  have lb : b < s1.heap.objs.size := p3.lt
  have n1 : its.length = bs.length := by rw [← rv.length, List.length_map]
  have n2 : its2.length = bs.length := by rw [← rv2.length, List.length_map]
  rw [List.length_map] at hz1
  have hh : X.A.handled = none := I1.ok.hd hc
  refine call_zip_2 p1.isList p3.isList fun h2 hz hTI hTO g1 g2 hsz hk => ?_
  refine PyProof.Rows.args_nil ?_
  have old : ∀ {b : Addr} {o : Obj} {j : Nat}, s1.heap.get? b = some o → b ≠ s1.heap.objs.size + j := fun {b o j} e => Nat.ne_of_lt (Nat.lt_of_lt_of_le (Heap.lt_size e) (Nat.le_add_right _ _))
  have old0 : ∀ {b : Addr} {o : Obj}, s1.heap.get? b = some o → b ≠ s1.heap.objs.size := fun {b o} e => Nat.ne_of_lt (Heap.lt_size e)
  refine sorted_coll (s := { s1 with heap := h2 }) (Good := fun vs s2 => ∃ h' as, s2 = { s1 with heap := h' } ∧ vs = as.map Value.ref ∧ (∀ b o, s1.heap.get? b = some o → h'.get? b = some o) ∧ as.length = bs.length ∧ ZMade its.toArray its2.toArray s1.heap.objs.size h' as)
    (collect_zip (s := { s1 with heap := h2 }) (A := X.A.in1) hh (ktu_apart s1.heap.objs.size a b la lb) (by rw [List.size_toArray, n1]; exact hz1) (by rw [List.size_toArray, List.size_toArray, n1, n2]) hz hTI hTO g1 g2 (p1.isList.at fun o e => hk _ o e) (p3.isList.at fun o e => hk _ o e) fun h' as k hl hG hle =>
      ⟨h', as, rfl, rfl, fun b o e => k b o (old e) (old e) (old e) (old0 e) (old e) (hk b o e), by rw [hl, List.size_toArray, n1], ⟨hG.rise, fun a ha => Nat.le_trans (by rw [hsz]; exact Nat.le_add_right _ _) (hG.above a ha), hG.pairs⟩⟩) ?_
  rintro vs s2 ⟨h', as, rfl, rfl, k, hal2, hG⟩
  have nd : as.Nodup := hG.rise.imp fun h => Nat.ne_of_lt h
  -- what a pair holds
  have pr : ∀ (j : Nat) (c : Addr) (t : β), as[j]? = some c → bs[j]? = some t → ∃ u v, IsPair h' c u v ∧ RelV (x t) u ∧ RelV (y t) v := by
    intro j c t hj ht
    obtain ⟨u, v, e1, e2, e3⟩ := hG.pairs j c hj
    refine ⟨u, v, e3, vals_at rv ht (by simpa using e1), vals_at rv2 ht (by simpa using e2)⟩
  have J : Inv X pins σ H1 { s1 with heap := h' } := I1.kept (t' := s1.toks) k
  refine ⟨Addr × β, fun z => .tuple [dx z.2, dy z.2], fun u z => u = .ref z.1, as.zip bs, each_zip hal2 fun j c t _ _ => rfl, each_zip hal2 fun j c t hj ht => ?_, ?_, Sortable.tuples fun z => ⟨_, _, rfl⟩, ?_, ?_, fun out h3 pp cc he k3 hp hob => ?_⟩
  · obtain ⟨u, v, e, ru, rw'⟩ := pr j c t hj ht
    obtain ⟨f1, f2⟩ := hf t (List.mem_of_getElem? ht)
    have := ReadsAll.cons (f1.reads J ru) (ReadsAll.cons (f2.reads J rw') ReadsAll.nil)
    exact .tuple e rfl rfl (by simpa using this)
  · intro d hd d' hd'
    obtain ⟨z, hz, rfl⟩ := List.mem_map.mp hd
    obtain ⟨z', hz', rfl⟩ := List.mem_map.mp hd'
    exact hal _ (List.mem_map.mpr ⟨z.2, (List.of_mem_zip hz).2, rfl⟩) _ (List.mem_map.mpr ⟨z'.2, (List.of_mem_zip hz').2, rfl⟩)
  · rw [List.length_zip]; omega
  · intro z hz
    have := hd z.2 (List.of_mem_zip hz).2
    show X.A.units + 3 + (PyData.tuple [dx z.2, dy z.2]).depth < cLine
    omega
  · obtain ⟨f1, f2⟩ := sort_facts (fun z : Addr × β => .tuple [dx z.2, dy z.2]) (as.zip bs)
    generalize (as.zip bs).mergeSort (dataLe false fun z => .tuple [dx z.2, dy z.2]) = zs at f1 f2 he
    have lz : zs.length = bs.length := by rw [f1.length_eq, List.length_zip]; omega
    have ho : out = (zs.map Prod.fst).map Value.ref := refs_out he
    have hv : Vals (zs.map fun z => V.ref z.1) out := by
      have := vals_refs ho
      rw [List.map_map] at this
      exact this
    have J2 : Inv X pins σ (upd H1 pp (.lst (zs.map fun z => V.ref z.1))) { s1 with heap := h3 } := J.laid (t' := s1.toks) k3 hp ⟨by rw [List.length_map, lz]; exact hz1, out, cc, hv, hob⟩
    have hpn : H1 pp = none := J.hok.fresh hp
    obtain ⟨H2, I3, g, qt⟩ := DX.takeT (P := fun c vs => ∃ (j : Nat) (t : β), as[j]? = some c ∧ bs[j]? = some t ∧ vs = [x t, y t]) I1 as _ J2 nd fun c hcm => by
      obtain ⟨j, hj⟩ := List.mem_iff_getElem?.mp hcm
      have hjl : j < bs.length := by rw [← hal2]; exact (List.getElem?_eq_some_iff.mp hj).1
      have ht : bs[j]? = some bs[j] := List.getElem?_eq_getElem hjl
      obtain ⟨u, v, e, ru, rw'⟩ := pr j c _ hj ht
      have hcl : c < h'.objs.size := Heap.lt_size e
      have hcp : c ≠ pp := Nat.ne_of_lt (Nat.lt_of_lt_of_le hcl hp)
      refine ⟨hG.above c hcm, by rw [upd_ne hcp]; exact I1.hok.fresh (hG.above c hcm), [x bs[j], y bs[j]], ⟨j, bs[j], hj, ht, rfl⟩, fun H2 => ⟨by show 2 ≤ sizeLine; decide, [u, v], .cons ru (.cons rw' .nil), ?_⟩⟩
      exact ⟨_, k3 _ _ e, rfl, 0, rfl⟩
    refine ⟨.ref pp, H2, I3, rfl, q2 H2 pp zs (fun c o e => g c o (by rw [upd_ne (ne_of_none e hpn)]; exact e)) hpn (perm_zip hal2 f1) ?_ (g _ _ upd_same) fun z hz => ?_⟩
    · rw [List.pairwise_map]
      exact f2
    · have hm := f1.mem_iff.mp hz
      obtain ⟨j, hj, ej⟩ := List.getElem_of_mem hm
      rw [List.length_zip] at hj
      rw [List.getElem_zip] at ej
      have e1 : as[j]? = some z.1 := by rw [← ej]; exact List.getElem?_eq_getElem (by omega)
      have e2 : bs[j]? = some z.2 := by rw [← ej]; exact List.getElem?_eq_getElem (by omega)
      obtain ⟨vs, ⟨j', t, f1', f2', ev⟩, hH⟩ := qt z.1 (List.mem_of_getElem? e1)
      have : j' = j := nd_ix nd f1' e1
      subst this
      rw [e2] at f2'; cases f2'
      rw [hH, ev]
end
end EpR
end
section
set_option linter.all false
set_option maxRecDepth 100000
set_option maxHeartbeats 4000000
/-! EpR3: set(xs) of a list, whatever its adding is told to do. -/
namespace EpR
open PySem PySem.W PySem.Calls PyProof.Rows L2

/-- a set as it is made -/
abbrev fset (w : World) : Obj := { cls := .type "set", dict := none, data := .set #[] 0 (.fresh 0 0 (!w.params.followText "set-order")) }
/-- how the set at S takes the items, from the heap h0 on: SI i when it has the first i of them -/
structure Fill (P : Program) (w : World) (most : Nat) (S : Addr) (h0 : Heap) (items : Array Value) (SI : Nat → Heap → Prop) : Prop where
  new : ∀ h : Heap, h.get? S = some (fset w) → SI 0 h
  keep : ∀ (i : Nat) (h h' : Heap), SI i h → (∀ o, h.get? S = some o → h'.get? S = some o) → SI i h'
  add : ∀ (A : Around) (E : Value → Shared → Prop) (i : Nat) (v : Value) (s : Shared) (Q : Bool → Shared → Prop), A.units ≤ most → items[i]? = some v → (∀ b o, h0.get? b = some o → s.heap.get? b = some o) → SI i s.heap →
    (∀ b h' tk, s.toks ≤ tk → Heap.SameBut S s.heap h' → SI (i + 1) h' → Q b { s with heap := h', toks := tk }) → wpAny (model P w) A (setAdd S v) Q E s
section
variable {P : Program} {w : World} {A : Around} {most : Nat} {S I l : Addr} {h0 : Heap} {items : Array Value} {SI : Nat → Heap → Prop}
theorem fill_loop (F : Fill P w most S h0 items SI) (hh : A.in1.handled = none) (hu : A.in1.units ≤ most) (hS0 : h0.get? S = none) (hI0 : h0.get? I = none) (hSI : S ≠ I) (hlI : l ≠ I) (hlS : l ≠ S) {R : Result → Shared → Prop} :
    ∀ (k i : Nat) (s : Shared), items.size - i = k → i ≤ items.size → s.heap.IsListIter I l i → s.heap.IsList l items → (∀ b o, h0.get? b = some o → s.heap.get? b = some o) → SI i s.heap →
      (∀ h' tk, (∀ b o, h0.get? b = some o → h'.get? b = some o) → SI items.size h' → R (.ok (.ret .none)) { s with heap := h', toks := tk }) →
      codeAny (model P w) A (.builtin "set.update.loop" ⟨[.ref S, .ref I], []⟩) R s := by
  intro k
  induction k with
  | zero =>
    intro i s hk hi hit hl kp si hR
    obtain rfl : i = items.size := by omega
    refine codeAny_builtin PyProof.Rows.F.entry_set_update_loop ?_
    rw [Around.under_plainId PyProof.Rows.F.plain_set_update_loop _]
    show wpAny _ A.in1 (pyNext (.ref I) >>= _) _ _ s
    refine wpAny_bind (wpAny_pyNext_list_end hh hit hl (by simp) fun h' he => ?_)
    show wpAny _ A.in1 (ret Value.none) _ _ _
    exact wpAny_pure (hR h' s.toks (fun b o e => he b o (fun z => by rw [z, hI0] at e; cases e) (kp b o e)) (F.keep _ _ _ si fun o e => he S o hSI e))
  | succ k ih =>
    intro i s hk hi hit hl kp si hR
    have hlt : i < items.size := by omega
    have hx : items[i]? = some items[i] := Array.getElem?_eq_getElem hlt
    generalize items[i] = v at hx
    refine codeAny_builtin PyProof.Rows.F.entry_set_update_loop ?_
    rw [Around.under_plainId PyProof.Rows.F.plain_set_update_loop _]
    show wpAny _ A.in1 (pyNext (.ref I) >>= _) _ _ s
    refine wpAny_bind (wpAny_pyNext_list_item hit hl hx fun h' hit' hs' => ?_)
    have kp' : ∀ b o, h0.get? b = some o → h'.get? b = some o := fun b o e => hs'.extBut b o (fun z => by rw [z, hI0] at e; cases e) (kp b o e)
    show wpAny _ A.in1 (holding [v] (setAdd S v) >>= _) _ _ _
    refine wpAny_bind (wpAny_holding ?_)
    refine F.add A.in1 _ i v { s with heap := h' } _ hu hx kp' (F.keep _ _ _ si fun o e => hs'.extBut S o hSI e) fun b h2 tk htk sb si2 => ?_
    refine wpAny_pure ⟨plainId_quiet PyProof.Rows.F.plain_set_update_loop _, ih (i + 1) _ (by omega) hlt (hit'.extBut sb.extBut hSI.symm) ((hl.extBut hs'.extBut hlI).extBut sb.extBut hlS) (fun b o e => sb.extBut b o (fun z => by rw [z, hS0] at e; cases e) (kp' b o e)) si2 fun h3 tk3 k3 si3 => hR h3 tk3 k3 si3⟩
end
section
variable {P : Program} {w : World} {A : Around} {E : Value → Shared → Prop} {s : Shared}
set_option maxHeartbeats 3200000 in
theorem call_set_fill {l : Addr} {items : Array Value} {SI : Nat → Heap → Prop} {Q : Value → Shared → Prop} (F : Fill P w (A.units + 3) s.heap.objs.size s.heap items SI) (hh : A.handled = none) (hl : s.heap.IsList l items)
    (h : ∀ h' tk, (∀ b o, s.heap.get? b = some o → h'.get? b = some o) → SI items.size h' → Q (.ref s.heap.objs.size) { s with heap := h', toks := tk }) :
    wpAny (model P w) A (call (.type "set") [.ref l]) Q E s := by
  obtain ⟨c, tl, hmro⟩ := PySem.F.called_set.mro
  have made := PySem.F.called_set.made
  have subs := PySem.F.called_set.sub
  refine wpAny_call (codeAny_of_tree ?_)
  show wpAny _ _ (callAny (.type "set") _) _ _ _
  refine wpAny_pure ⟨Code.quiet_builtin _ (by decide +kernel), codeAny_builtin PySem.F.entry_type_call ?_⟩
  rw [Around.under_plain (weight_type_call_type "set" [.ref l] []) rfl]
  have f1 := PySem.F.called_set.notType
  have f2 := PySem.F.called_set.canCreate
  have f3 := PySem.F.typeCall_set_1 (.ref l)
  repeat (any_goals (first | assumption | wp_step))

  refine codeAny_mono (code_set_led1 (.ref l) (E := E) (Q₁ := fun obj s₁ => obj = .ref s.heap.objs.size ∧ s₁ = { s with heap := s.heap.push (fset w) }) ⟨rfl, rfl⟩) fun r s₁ hr => ?_
  cases r with
  | error e => exact hr
  | ok fl =>
    cases fl with
    | ret obj =>
      obtain ⟨rfl, rfl⟩ := hr
      have hS : (s.heap.push (fset w)).get? s.heap.objs.size = some (fset w) := Heap.get?_push_size _ rfl
      have hT : Shared.TypeIs { s with heap := s.heap.push (fset w) } (.ref s.heap.objs.size) "set" := ⟨_, hS, rfl⟩
      have g1 := PySem.F.called_set.init.lookup
      have g2 := PySem.F.called_set.init.bind (.ref s.heap.objs.size)
      repeat (any_goals (first | assumption | wp_step))

      refine codeAny_mono (codeAny_call_builtin (R := wants (fun r s₂ => r = .none ∧ ∃ h' tk, s₂ = { s with heap := h', toks := tk } ∧ (∀ b o, s.heap.get? b = some o → h'.get? b = some o) ∧ SI items.size h') E)
        PySem.F.called_set.init.plain PySem.F.entry_set_init (check_set_init_1 hT ?_)) fun r₂ s₂ hr₂ => ?_
      · obtain ⟨ol, hol, hcl, nl, hdl⟩ := hl
        obtain ⟨ocls, odict, odata, oslots⟩ := ol
        simp only at hcl hdl
        subst hcl; subst hdl
        have hol' : (s.heap.push (fset w)).get? l = some { cls := .type "list", dict := odict, data := .seq items nl, slots := oslots } := Heap.get?_push_of_some _ hol
        have d1 := PySem.F.sub_list_set
        have d2 := PySem.F.sub_list_frozenset
        have d3 : (Value.type "list" == Value.type "dict") = false := by decide
        have hl1 : (s.heap.push (fset w)).IsList l items := ⟨_, hol', rfl, nl, rfl⟩
        unfold Builtin.«set.__init__» noKeywords Builtin.Frozenset.updateFrom
        generalize hPI : pyIter = PI
        wp_walk
        subst hPI

        refine wpAny_pyIter_list hl1 ?_
        refine wpAny_bind (wpAny_runValue ?_)
        have hlS : l < s.heap.objs.size := Heap.lt_size hol
        have z1 : (s.heap.push (fset w)).objs.size = s.heap.objs.size + 1 := Heap.size_push ..
        have no : ∀ b, s.heap.objs.size ≤ b → s.heap.get? b = none := fun b hb => by
          cases q : s.heap.get? b with
          | none => rfl
          | some o => exact absurd (Nat.lt_of_lt_of_le (Heap.lt_size q) hb) (Nat.lt_irrefl _)
        have kp : ∀ b o, s.heap.get? b = some o → ((s.heap.push (fset w)).push { cls := .type "list_iterator", data := .fields #[.ref l, .int 0 0] }).get? b = some o := fun b o e => Heap.get?_push_of_some _ (Heap.get?_push_of_some _ e)
        refine fill_loop F (by show A.handled = none; exact hh) (by show A.units + 3 ≤ A.units + 3; exact Nat.le_refl _) (no _ (Nat.le_refl _)) (no _ (by rw [z1]; exact Nat.le_succ _)) (by rw [z1]; exact Nat.ne_of_lt (Nat.lt_succ_self _)) (by rw [z1]; exact Nat.ne_of_lt (Nat.lt_succ_of_lt hlS)) (Nat.ne_of_lt hlS)
          items.size 0 _ (Nat.sub_zero _) (Nat.zero_le _) ⟨_, Heap.get?_push_size _ rfl, rfl, rfl⟩ (hl1.push _) kp (F.new _ (Heap.get?_push_of_some _ hS)) fun h' tk k si => ?_
        show wpAny _ _ _ _ _ _
        refine wpAny_pure ?_
        show wpAny _ _ (ret Value.none) _ _ _
        exact wpAny_pure ⟨rfl, h', tk, rfl, k, si⟩

      · cases r₂ with
        | error e => exact hr₂
        | ok fl₂ =>
          cases fl₂ with
          | ret r =>
            obtain ⟨rfl, h', tk, rfl, k, si⟩ := hr₂
            repeat (any_goals (first | assumption | wp_step))
            exact h _ _ k si
          | _ => exact hr₂.elim
    | _ => exact hr.elim
end
end EpR
end
section
set_option linter.all false
set_option maxRecDepth 100000
set_option maxHeartbeats 4000000
/-! EpR4: sorted(set(xs)), xs a list of texts. -/
namespace EpR
open PySem PySem.W PySem.Calls PyProof.Rows L2

def tOf : Value → Str
  | .str x _ => x
  | _ => Str.empty
/-- the set at S holds just the texts told by M -/
def TSet (w : World) (S : Addr) (M : Str → Prop) (most : Nat) (h : Heap) : Prop :=
  ∃ o es ep t, h.get? S = some o ∧ o.ExactSet ∧ o.data = .set es ep t ∧ (∀ e ∈ es.toList, ∃ x u, e = (hashStr w x, Value.str x u)) ∧ (es.toList.map fun e => tOf e.2).Nodup ∧
    (∀ x, x ∈ es.toList.map (fun e => tOf e.2) ↔ M x) ∧ es.size ≤ most ∧ t.fits es.size = true ∧ Ris t.place.toList ∧ (w.params.followText "set-order" = true ∨ t.led = true)
section
variable {P : Program} {w : World} {A : Around} {E : Value → Shared → Prop} {s : Shared} {S : Addr}
theorem tset_elems {es : Array (Int × Value)} (g : ∀ e ∈ es.toList, ∃ x u, e = (hashStr w x, Value.str x u)) : ElemsOf (strKind P w) es.toList := fun e he => by
  obtain ⟨x, u, rfl⟩ := g e he
  exact ⟨⟨x, strKind_is P w x u, rfl⟩, rfl⟩
theorem tset_is {e : Int × Value} {x y : Str} {u : Tok} (h : e = (hashStr w x, Value.str x u)) : (strKind P w).is y e.2 = true ↔ tOf e.2 = y := by
  subst h
  show Value.isStrOf y (.str x u) = true ↔ x = y
  unfold Value.isStrOf
  simp
/-- one that is not there comes in -/
theorem tset_put {k : Str} {u : Tok} {M : Str → Prop} {most : Nat} {o : Obj} {es : Array (Int × Value)} {ep : Nat} {t : SetTable} {Q : Option Bool → Shared → Prop} (ho : s.heap.get? S = some o) (hex : o.ExactSet) (hd : o.data = .set es ep t)
    (g : ∀ e ∈ es.toList, ∃ x u, e = (hashStr w x, Value.str x u)) (nd : (es.toList.map fun e => tOf e.2).Nodup) (hm : ∀ x, x ∈ es.toList.map (fun e => tOf e.2) ↔ M x) (hz : es.size ≤ most) (hb : most + 1 < scanBound)
    (hr : Ris t.place.toList) (hl : w.params.followText "set-order" = true ∨ t.led = true) (hk : ¬ M k)
    (hQ : ∀ h', Heap.SameBut S s.heap h' → TSet w S (fun x => M x ∨ x = k) (most + 1) h' → Q (some true) { s with heap := h' })
    {g0 : Bool → Sem Unit} (hg0 : ∀ (b : Bool) (s₁ : Shared) (Q' : Unit → Shared → Prop), Q' () s₁ → wpAny (model P w) A (g0 b) Q' E s₁)
    {t1 : SetTable → SetTable} (ht1 : ∀ t, (t1 t).place = t.place ∧ (t1 t).led = t.led ∧ ∀ n, t.fits n = true → (t1 t).fits n = true) :
    wpAny (model P w) A (do
        storeSet S (layNew t es (hashStr w k) (.str k u)).1 (t1 (layNew t es (hashStr w k) (.str k u)).2.1)
        if (!(layNew t es (hashStr w k) (.str k u)).2.2.1 && (t1 (layNew t es (hashStr w k) (.str k u)).2.1).tooFull) = true then do
            g0 (relayAll (t1 (layNew t es (hashStr w k) (.str k u)).2.1) (layNew t es (hashStr w k) (.str k u)).1 (SetTable.grown (layNew t es (hashStr w k) (.str k u)).1.size)).2.2
            storeSet S (relayAll (t1 (layNew t es (hashStr w k) (.str k u)).2.1) (layNew t es (hashStr w k) (.str k u)).1 (SetTable.grown (layNew t es (hashStr w k) (.str k u)).1.size)).1
              (relayAll (t1 (layNew t es (hashStr w k) (.str k u)).2.1) (layNew t es (hashStr w k) (.str k u)).1 (SetTable.grown (layNew t es (hashStr w k) (.str k u)).1.size)).2.1
            pure (some true)
          else pure (some true)) Q E s := by
  have pm := layNew_perm t es (hashStr w k) (.str k u)
  have hf := layNew_fits t es (hashStr w k) (.str k u)
  have r1 := layNew_ris t es (hashStr w k) (.str k u) hr
  have l1 := layNew_led t es (hashStr w k) (.str k u)
  generalize layNew t es (hashStr w k) (.str k u) = Z at pm hf r1 l1 ⊢
  obtain ⟨es1, t0, wd, gave⟩ := Z
  dsimp only at pm hf r1 l1 ⊢
  rw [Array.toList_push] at pm
  have pc : es1.toList.Perm ((hashStr w k, Value.str k u) :: es.toList) := pm.trans (List.perm_append_singleton _ _)
  obtain ⟨q1, q2, q3⟩ := ht1 t0
  generalize t1 t0 = t2 at q1 q2 q3 ⊢
  have f2 := q3 _ hf
  have r2 : Ris t2.place.toList := by rw [q1]; exact r1
  have l2 : w.params.followText "set-order" = true ∨ t2.led = true := hl.imp id fun z => by rw [q2, l1]; exact z
  have nk : k ∉ es.toList.map fun e => tOf e.2 := fun z => hk ((hm k).mp z)
  -- whatever the order, it holds these
  have made : ∀ (es2 : Array (Int × Value)) (t3 : SetTable) (ep2 : Nat) (h' : Heap) (o2 : Obj), es2.toList.Perm es1.toList → t3.fits es2.size = true → Ris t3.place.toList → (w.params.followText "set-order" = true ∨ t3.led = true) →
      h'.get? S = some o2 → o2.ExactSet → o2.data = .set es2 ep2 t3 → TSet w S (fun x => M x ∨ x = k) (most + 1) h' := fun es2 t3 ep2 h' o2 p a1 a2 a3 a4 a5 a6 => by
    have pk := p.trans pc
    have pk2 : (es2.toList.map fun e => tOf e.2).Perm (k :: es.toList.map fun e => tOf e.2) := pk.map _
    refine ⟨o2, es2, ep2, t3, a4, a5, a6, fun e he => ?_, pk2.nodup_iff.mpr (List.nodup_cons.mpr ⟨nk, nd⟩), fun x => ?_, ?_, a1, a2, a3⟩
    · rcases List.mem_cons.mp (pk.mem_iff.mp he) with z | z
      · exact ⟨k, u, z⟩
      · exact g e z
    · rw [pk2.mem_iff, List.mem_cons, hm x]
      exact Or.comm
    · have := pk.length_eq
      rw [Array.length_toList, List.length_cons, Array.length_toList] at this
      omega
  have z1 : es1.size ≤ most + 1 := by
    have := pc.length_eq
    rw [Array.length_toList, List.length_cons, Array.length_toList] at this
    omega
  refine wpAny_bind (wpAny_storeSet_of ho hd ?_ (fits_of_scanBound (Nat.lt_of_le_of_lt z1 hb)))
  have ho1 := store_at (es' := es1) (t' := t2) ho hd
  have sb1 := Heap.SameBut.update s.heap S (Obj.putSet es1 t2)
  split
  · have pr := relayAll_perm t2 es1 (SetTable.grown es1.size)
    have fr := relayAll_fits t2 es1 (SetTable.grown es1.size)
    have rr := relayAll_ris t2 es1 (SetTable.grown es1.size)
    have lr := relayAll_led t2 es1 (SetTable.grown es1.size)
    generalize relayAll t2 es1 (SetTable.grown es1.size) = Y at pr fr rr lr ⊢
    obtain ⟨es2, t3, gv⟩ := Y
    dsimp only at pr fr rr lr ⊢
    have z2 : es2.size ≤ most + 1 := by
      have := pr.length_eq
      rw [Array.length_toList, Array.length_toList] at this
      omega
    refine wpAny_bind (hg0 _ _ _ ?_)
    refine wpAny_bind (wpAny_storeSet_of ho1 rfl ?_ (fits_of_scanBound (Nat.lt_of_le_of_lt z2 hb)))
    exact wpAny_pure (hQ _ (sb1.trans (Heap.SameBut.update _ S _)) (made es2 t3 _ _ _ pr fr rr (l2.imp id fun z => by rw [lr]; exact z) (store_at (es' := es2) (t' := t3) ho1 rfl) hex rfl))
  · exact wpAny_pure (hQ _ sb1 (made es1 t2 _ _ _ (List.Perm.refl _) f2 r2 l2 ho1 hex rfl))
theorem tset_add {k : Str} {u : Tok} {M : Str → Prop} {most : Nat} {Q : Bool → Shared → Prop} (T : TSet w S M most s.heap) (hb : most + 1 < scanBound)
    (hQ : ∀ b h', Heap.SameBut S s.heap h' → TSet w S (fun x => M x ∨ x = k) (most + 1) h' → Q b { s with heap := h' }) :
    wpAny (model P w) A (setAddHashed S (.str k u) ((strKind P w).hash k)) Q E s := by
  obtain ⟨o, es, ep, t, ho, hex, hd, g, nd, hm, hz, hf, hr, hl⟩ := T
  have hkey : (strKind P w).is k (.str k u) = true := strKind_is P w k u
  have hsc : (Value.str k u).scannable = true := rfl
  have hel : ElemsOf (strKind P w) es.toList := tset_elems g
  unfold setAddHashed setAddHashedIn
  refine wpAny_holding (wpAny_bind (wpAny_setState_of ho hd hf ?_))
  dsimp only
  rw [byScan_of hsc (by omega) hel]
  simp only [↓reduceIte]
  unfold setAddByScan
  refine wpAny_bind ?_
  refine wpAny_bind (wpAny_rule ?_)
  refine wpAny_bind (wpAny_setScan_of hkey ho hd hf hel ?_)
  cases hfi : List.findIdx? (fun e => (strKind P w).is k e.2) es.toList with
  | some j =>
    dsimp only
    obtain ⟨hj, pj, _⟩ := List.findIdx?_eq_some_iff_getElem.mp hfi
    have hk : M k := by
      obtain ⟨x, u', e⟩ := g _ (List.getElem_mem hj)
      refine (hm k).mp (List.mem_map.mpr ⟨es.toList[j], List.getElem_mem hj, (tset_is (P := P) e).mp pj⟩)
    refine wpAny_pure (wpAny_pure (hQ _ s.heap (Heap.SameBut.refl S s.heap) ⟨o, es, ep, t, ho, hex, hd, g, nd, fun x => ?_, Nat.le_succ_of_le hz, hf, hr, hl⟩))
    rw [hm x]
    exact ⟨.inl, fun z => z.elim id fun e => e ▸ hk⟩
  | none =>
    dsimp only
    have hk : ¬ M k := fun z => by
      obtain ⟨e, he, q⟩ := List.mem_map.mp ((hm k).mpr z)
      obtain ⟨x, u', e'⟩ := g e he
      have c := List.findIdx?_eq_none_iff.mp hfi e he
      rw [(tset_is (P := P) e').mpr q] at c
      cases c
    have gw : ∀ (b : Bool) {s₁ : Shared} {Q' : Unit → Shared → Prop}, Q' () s₁ → wpAny (model P w) A (match b with | true => rule "set.scan.the-table-gave-way" | false => pure ()) Q' E s₁ :=
      fun b s₁ Q' q => by cases b <;> first | exact wpAny_pure q | exact wpAny_rule q
    have fin := fun (h' : Heap) (sb : Heap.SameBut S s.heap h') (r : TSet w S (fun x => M x ∨ x = k) (most + 1) h') => hQ true h' sb r
    refine wpAny_bind (gw _ ?_)
    split
    · refine wpAny_bind ?_
      rw [hashByValue_scannable 8 hsc]
      refine wpAny_pure ?_
      refine tset_put (k := k) (u := u) (t1 := fun t => { t with plain := false }) ho hex hd g nd hm hz hb hr hl hk (fun h' sb r => ?_) (fun b s₁ Q' q => gw b q) (fun t => ⟨rfl, rfl, fun n z => SetTable.fits_plain_off z⟩)
      dsimp only
      exact wpAny_pure (fin h' sb r)
    · refine wpAny_bind (wpAny_pure ?_)
      simp only [↓reduceIte]
      refine tset_put (k := k) (u := u) (t1 := fun t => t) ho hex hd g nd hm hz hb hr hl hk (fun h' sb r => ?_) (fun b s₁ Q' q => gw b q) (fun t => ⟨rfl, rfl, fun n z => z⟩)
      dsimp only
      exact wpAny_pure (fin h' sb r)
end
end EpR
end
section
set_option linter.all false
set_option maxRecDepth 100000
set_option maxHeartbeats 4000000
/-! EpR5: sorted(set(xs)), xs a list of texts, as a rule. -/
namespace EpR
open PySem PySem.W PySem.Calls PyProof.Rows L2
section
variable {P : Program} {w : World} {S : Addr} {h0 : Heap}
theorem TSet.at {M : Str → Prop} {n : Nat} {h h' : Heap} (T : TSet w S M n h) (k : ∀ o, h.get? S = some o → h'.get? S = some o) : TSet w S M n h' := by
  obtain ⟨o, es, ep, t, ho, r⟩ := T
  exact ⟨o, es, ep, t, k o ho, r⟩
theorem TSet.imp {M M' : Str → Prop} {n : Nat} {h : Heap} (T : TSet w S M n h) (e : ∀ x, M x ↔ M' x) : TSet w S M' n h := by
  obtain ⟨o, es, ep, t, ho, a, b, c, d, m, r⟩ := T
  exact ⟨o, es, ep, t, ho, a, b, c, d, fun x => (m x).trans (e x), r⟩
theorem fill_texts {items : Array Value} {xs : List Str} (hi : StrsAre items.toList xs) (hb : xs.length + 1 < scanBound) (most : Nat) : Fill P w most S h0 items (fun i h => TSet w S (fun x => x ∈ xs.take i) i h) where
  new := fun h e => ⟨_, #[], 0, _, e, ⟨rfl, rfl, rfl⟩, rfl, (fun e he => by simp at he), (by simp), (fun x => by simp), Nat.le_refl _, rfl, List.Pairwise.nil, by
    show _ ∨ (!w.params.followText "set-order") = true
    cases w.params.followText "set-order"
    · exact .inr rfl
    · exact .inl rfl⟩
  keep := fun i h h' T k => T.at k
  add := fun A E i v s Q hu hv _ T hQ => by
    have hil : i < xs.length := by
      have h1 := (Array.getElem?_eq_some_iff.mp hv).1
      have h2 := StrsAre.len_eq hi
      rw [Array.length_toList] at h2
      omega
    obtain ⟨u, rfl⟩ := SS.strs_at hi i v (by rw [Array.getElem?_toList]; exact hv)
    unfold setAdd
    refine wpAny_holding ?_
    refine wpAny_bind ((strKind P w).pyHash (k := xs.getD i Str.empty) (strKind_is _ _ _ _) ?_)
    refine tset_add (s := { s with toks := s.toks + 1 }) T (by omega) fun b h' sb T' => hQ b h' (s.toks + 1) (Nat.le_succ _) sb (T'.imp fun x => ?_)
    have e : xs[i]? = some (xs.getD i Str.empty) := by
      rw [List.getD_eq_getElem?_getD, List.getElem?_eq_getElem hil]; rfl
    rw [List.take_add_one, e, List.mem_append]
    simp
end
/-- sorted(set(xs)), xs a list of texts -/
def tSortSetS (K : PySem.W.Frag) (te : TE) : TE := fun σ H Q => te σ H fun x H1 => ∃ (a : Addr) (xs : List Str), x = .ref a ∧ SqL K H1 a (xs.map V.str) ∧ xs.length < 4000 ∧
  ∀ (ys : List Str) (p : Addr), ys.Pairwise (fun a b => a.cps.toList < b.cps.toList) → (∀ z, z ∈ ys ↔ z ∈ xs) → H1 p = none → Q (.ref p) (upd H1 p (.lst (ys.map V.str)))
theorem strs_vals : ∀ {us : List Value} {xs : List Str}, Vals (xs.map V.str) us → StrsAre us xs
  | _, [], .nil => .nil
  | _, x :: xs, .cons ⟨t, e⟩ r => by rw [e]; exact .cons _ _ (strs_vals r)
theorem str_tl {a b : Str} (h : a.cps.toList = b.cps.toList) : a = b := by
  cases a
  cases b
  simp only [Str.mk.injEq]
  exact Array.toList_inj.mp h
/-- rising, without like ones -/
theorem rise_nd {ys : List Str} (h : ys.Pairwise fun a b => a.cps.toList ≤ b.cps.toList) (nd : ys.Nodup) : ys.Pairwise fun a b => a.cps.toList < b.cps.toList :=
  (h.and nd).imp fun {a b} q => by
    refine Decidable.byContradiction fun z => q.2 (str_tl ?_)
    exact Std.Antisymm.antisymm (r := fun x y : List Nat => x ≤ y) _ _ q.1 z
section
variable {X : Cx}
theorem pe_sortSetS {e : Expr} {te : TE} {p p2 q pos : Pos} (hc : X.calm = true) (hu : X.A.units + 64 < cLine) (hg : Gl X "sorted") (hm : X.mg "sorted" = none) (hg2 : Gl X "set") (hm2 : X.mg "set" = none) (he : PE X e te)
    (na : starEach [e] X.env = (false, eval e X.env) :: starEach [] X.env := by rfl) :
    PE X (.Call (.Name "sorted" p) [.Call (.Name "set" p2) [e] [] q] [] pos) (tSortSetS X.K te) := by
  refine ⟨fun pins s σ H Q I h => ?_⟩
  refine Call_ (ld_blt I hg hm boot_sorted ?_)
  refine PyProof.Rows.callWith_builtin1 (PyProof.Rows.args_cons ?_ rfl) rfl rfl
  refine Call_ (ld_blt I hg2 hm2 boot_set ?_)
  refine PyProof.Rows.callWith_type1 (PyProof.Rows.args_cons (thn (he.run pins s σ H _ I h) fun v s1 ⟨x, H1, I1, r1, q1⟩ => PyProof.Rows.args_nil ?_) na) na rfl
  obtain ⟨a, xs, rfl, hx, hl, q2⟩ := q1
  cases r1
  obtain ⟨its, rv, p1, hz1⟩ := I1.list hx
  have hh : X.A.handled = none := I1.ok.hd hc
  have hS := strs_vals rv
  refine call_set_fill (fill_texts (P := X.prog) (w := X.w) (by simpa using hS) (by unfold scanBound; omega) _) hh p1.isList fun h2 tk k T => ?_
  refine PyProof.Rows.args_nil ?_
  have nlen : its.toArray.size = xs.length := by rw [List.size_toArray, ← rv.length, List.length_map]
  rw [nlen] at T
  obtain ⟨o, es, ep, t, ho, hex, hd, g, nd, hmem, hz, hf, hr, hled⟩ := T
  have I2 : Inv X pins σ H1 { s1 with heap := h2, toks := tk } := I1.kept (t' := tk) k
  refine sorted_coll (s := { s1 with heap := h2, toks := tk }) (Good := fun vs s2 => (∀ b o, h2.get? b = some o → s2.heap.get? b = some o) ∧ s2.gens = s1.gens ∧ s2.os = s1.os ∧ vs.Perm (es.toList.map (·.2)))
    (collect_set (A := X.A.in1) hh ⟨o, ho, hex.1, hd⟩ hf (by unfold scanBound; omega) hr hled fun s2 out k2 _ g2 o2 pm => ⟨k2, g2, o2, pm⟩) ?_
  rintro vs s2 ⟨k2, g2, o2, pm⟩
  have J : Inv X pins σ H1 s2 := by
    have J' := I2.call' (s' := s2) (ch := []) (H' := H1) o2 (Un.kept k2) (I2.hok.kept k2) (by rw [g2]; exact I1.bare) (fun _ z => nomatch z)
    exact J'
  -- the values are texts
  have tv : ∀ v ∈ vs, ∃ x u, v = Value.str x u := fun v hv => by
    obtain ⟨e, he, rfl⟩ := List.mem_map.mp (pm.mem_iff.mp hv)
    obtain ⟨x, u, e'⟩ := g e he
    exact ⟨x, u, by rw [e']⟩
  have sv : ∀ {l : List Value}, (∀ v ∈ l, ∃ x u, v = Value.str x u) → Vals ((l.map tOf).map V.str) l := by
    intro l
    induction l with
    | nil => intro _; exact .nil
    | cons v l ih =>
      intro hv
      obtain ⟨x, u, e⟩ := hv v List.mem_cons_self
      subst e
      exact .cons ⟨u, rfl⟩ (ih fun y hy => hv y (List.mem_cons_of_mem _ hy))
  have pt : (vs.map tOf).Perm (es.toList.map fun e => tOf e.2) := by
    have := pm.map tOf
    rw [List.map_map] at this
    exact this
  have rvs := sv tv
  have lvs : vs.length ≤ sizeLine := by
    have h1 : vs.length = es.size := by
      have h3 := List.Perm.length_eq pm
      rw [h3, List.length_map, Array.length_toList]
    have h2 : es.size ≤ xs.length := hz
    rw [sizeLine_eq]
    omega
  refine ⟨Str, fun x => .str x, fun u x => RelV (.str x) u, vs.map tOf, each_of (fun b u _ r => r) rvs, each_of (fun b u _ r => (Flat.str b).reads (H := H1) J r) rvs, AllAlike.of fun b b' => rfl, Sortable.others fun b => ⟨nofun, nofun⟩, by rw [List.length_map]; exact lvs, fun b _ => ?_, fun out h3 pp c hout k3 hp hob => ?_⟩
  · show X.A.units + 3 + 0 < cLine
    omega
  · obtain ⟨f1, f2⟩ := sort_facts (fun x : Str => PyData.str x) (vs.map tOf)
    have J2 : Inv X pins σ (upd H1 pp (.lst (((vs.map tOf).mergeSort (dataLe false fun x => .str x)).map V.str))) { s2 with heap := h3 } := J.laid (t' := s2.toks) k3 hp ⟨by rw [List.length_map, f1.length_eq, List.length_map]; exact lvs, out, c, vals_each hout, hob⟩
    refine ⟨.ref pp, _, J2, rfl, q2 _ pp (rise_nd (f2.imp fun {a b} h => ?_) ((f1.trans pt).nodup_iff.mpr nd)) (fun z => ?_) (J.hok.fresh hp)⟩
    · rw [dataLe_str] at h
      exact of_decide_eq_true h
    · rw [(f1.trans pt).mem_iff, hmem z, List.take_length]
end
end EpR
end
section
set_option linter.all false
set_option maxRecDepth 100000
set_option maxHeartbeats 4000000
/-! EpR6: sets of tuples whose items are told by any kind of plain keys, fewer than 64 unlike ones: the search, adding. -/
namespace EpR
open PySem PySem.W PySem.Calls PyProof.Rows L2

section
variable {P : Program} {w : World} {κ : Type} [DecidableEq κ] (knd : KeyKind P w κ)
/-- the kind's values are of no class, and whether they are hashed by value is plain -/
structure Calm : Prop where
  cls : ∀ (k : κ) (v : Value), knd.is k v = true → ∀ n, ofAClassStatement n v = pure false
  byv : ∀ (k : κ) (v : Value), knd.is k v = true → ∃ b, ∀ n, hashByValue n v = pure b
abbrev th (k : List κ) : Int := tupleKeyHash knd k
def lines (L : List (Addr × List κ)) : List (Int × Value) := L.map fun p => (th knd p.2, Value.ref p.1)
/-- the set at a: the tuples at the addresses of L -/
structure TT (h : Heap) (a : Addr) (L : List (Addr × List κ)) (es : Array (Int × Value)) (ep : Nat) (t : SetTable) : Prop where
  obj : ∃ o, h.get? a = some o ∧ o.ExactSet ∧ o.data = .set es ep t
  rows : es.toList = lines knd L
  tab : TabOk t (L.map fun p => th knd p.2)
  nd : (L.map (·.2)).Nodup
  led : w.params.followText "set-order" = true ∨ t.led = true
  room : L.length * 5 < t.mask * 3
  few : L.length < 64
end
section
variable {P : Program} {w : World} {κ : Type} [DecidableEq κ] {knd : KeyKind P w κ} {A : Around} {E : Value → Shared → Prop} {s : Shared} {a : Addr} {L : List (Addr × List κ)} {es : Array (Int × Value)} {ep : Nat} {t : SetTable}
theorem TT.size {h : Heap} (T : TT knd h a L es ep t) : es.size = L.length := by
  have e := congrArg List.length T.rows
  rw [Array.length_toList] at e
  rw [e]
  unfold lines
  exact List.length_map ..
theorem TT.fits {h : Heap} (T : TT knd h a L es ep t) : t.fits es.size = true := by
  have h1 := T.tab.sz
  have h2 := T.size
  have h3 := T.room
  rw [List.length_map] at h1
  unfold SetTable.fits SetTable.fill
  rw [T.tab.dm]
  simp only [Bool.and_eq_true, beq_iff_eq, decide_eq_true_eq]
  refine ⟨by omega, ?_⟩
  show t.place.size + 0 ≤ t.mask
  omega
theorem TT.line {h : Heap} (T : TT knd h a L es ep t) {i : Nat} {p : Addr × List κ} (e : L[i]? = some p) : es[i]? = some (th knd p.2, Value.ref p.1) := by
  rw [← Array.getElem?_toList, T.rows]
  unfold lines
  rw [List.getElem?_map, e]; rfl
/-- the class question, of a tuple -/
theorem calm_cls (C : Calm knd) {k : List κ} {b : Addr} {Q : Bool → Shared → Prop} (hk : IsTupleKey knd s.heap k b) (h : Q false s) : wpAny (model P w) A (ofAClassStatement 8 (.ref b)) Q E s := by
  have ty := hk.typeIs
  obtain ⟨o, items, n, ho, _, hd, hi⟩ := hk
  have all : ∀ v ∈ items.toList, ∀ n, ofAClassStatement n v = pure false := by
    generalize items.toList = vs at hi
    clear hd
    induction hi with
    | nil => intro v hv; cases hv
    | cons h1 _ ih =>
      intro v hv
      rcases List.mem_cons.mp hv with e | hv
      · subst e; exact C.cls _ _ h1
      · exact ih v hv
  unfold ofAClassStatement
  refine wpAny_bind (wpAny_typeOf ty ?_)
  dsimp only
  have e : (("tuple" : String) == "tuple") = true := by decide
  simp only [e, if_true, Bool.not_true, Bool.false_eq_true, if_false]
  try refine wpAny_bind (wpAny_pure ?_)
  try simp only [Bool.not_true, Bool.false_eq_true, if_false]
  show wpAny _ _ (seqItems? (.ref b) >>= _) _ _ s
  refine wpAny_bind (wpAny_seqItems ho hd ?_)
  dsimp only
  refine wpAny_bind ?_
  show wpAny _ _ (forIn items _ _) _ _ s
  rw [← Array.forIn_toList]
  refine wpAny_forIn_list _ (fun rest r s' => r.1 = none ∧ s' = s ∧ ∀ v ∈ rest, ∀ n, ofAClassStatement n v = pure false) _ ?_ ?_ _ _ ⟨rfl, rfl, all⟩
  · rintro v rest r s' ⟨hr, rfl, q⟩
    rw [q v List.mem_cons_self]
    refine wpAny_bind (wpAny_pure ?_)
    simp only [Bool.false_eq_true, if_false]
    exact wpAny_pure ⟨rfl, rfl, fun u hu => q u (List.mem_cons_of_mem _ hu)⟩
  · rintro ⟨r1, r2⟩ s' ⟨hr, rfl, _⟩
    simp only at hr
    subst hr
    exact wpAny_pure h
/-- whether it is hashed by value: some answer -/
theorem calm_byv (C : Calm knd) {k : List κ} {b : Addr} {Q : Bool → Shared → Prop} (hk : IsTupleKey knd s.heap k b) (h : ∀ c, Q c s) : wpAny (model P w) A (hashByValue 8 (.ref b)) Q E s := by
  have ty := hk.typeIs
  obtain ⟨o, items, n, ho, _, hd, hi⟩ := hk
  have all : ∀ v ∈ items.toList, ∃ b, ∀ n, hashByValue n v = pure b := by
    generalize items.toList = vs at hi
    clear hd
    induction hi with
    | nil => intro v hv; cases hv
    | cons h1 _ ih =>
      intro v hv
      rcases List.mem_cons.mp hv with e | hv
      · subst e; exact C.byv _ _ h1
      · exact ih v hv
  unfold hashByValue
  refine wpAny_bind (wpAny_specialOf ty F.slot_tuple_hash.lookup ?_)
  show wpAny _ _ (seqItems? (.ref b) >>= _) _ _ s
  refine wpAny_bind (wpAny_seqItems ho hd ?_)
  refine wpAny_bind ?_
  show wpAny _ _ (forIn items _ _) _ _ s
  rw [← Array.forIn_toList]
  refine wpAny_forIn_list _ (fun rest r s' => s' = s ∧ ∀ v ∈ rest, ∃ b, ∀ n, hashByValue n v = pure b) _ ?_ ?_ _ _ ⟨rfl, all⟩
  · rintro v rest r s' ⟨rfl, q⟩
    obtain ⟨c, e⟩ := q v List.mem_cons_self
    rw [e]
    refine wpAny_bind (wpAny_pure ?_)
    cases c
    · simp only [Bool.not_false, if_true]
      exact wpAny_pure (wpAny_pure (h _))
    · simp only [Bool.not_true, Bool.false_eq_true, if_false]
      exact wpAny_pure ⟨rfl, fun u hu => q u (List.mem_cons_of_mem _ hu)⟩
  · rintro ⟨r1, r2⟩ s' ⟨rfl, _⟩
    cases r1 with
    | none => exact wpAny_pure (h _)
    | some c => exact wpAny_pure (h _)
/-- a search among such tuples shows nothing -/
theorem calm_seen (C : Calm knd) {k : List κ} {b : Addr} {Q : Bool → Shared → Prop} (hk : IsTupleKey knd s.heap k b) {ys : List Value} (hy : ∀ y ∈ ys, ∃ k' c, y = Value.ref c ∧ IsTupleKey knd s.heap k' c) (h : Q false s) :
    wpAny (model P w) A (searchCouldBeSeen (.ref b) ys) Q E s := by
  unfold searchCouldBeSeen
  refine wpAny_bind ?_
  refine wpAny_forIn_list _ (fun rest r s' => r.1 = none ∧ s' = s ∧ ∀ y ∈ rest, ∃ k' c, y = Value.ref c ∧ IsTupleKey knd s.heap k' c) _ ?_ ?_ _ _ ⟨rfl, rfl, hy⟩
  · rintro v rest r s' ⟨hr, rfl, q⟩
    obtain ⟨k', c, rfl, hc⟩ := q v List.mem_cons_self
    have more : ∀ y ∈ rest, ∃ k' c, y = Value.ref c ∧ IsTupleKey knd s'.heap k' c := fun u hu => q u (List.mem_cons_of_mem _ hu)
    dsimp only
    by_cases hv : (b == c || (carriedByValue (.ref b) && carriedByValue (.ref c))) = true
    · exact wp_if_pos hv (wpAny_pure ⟨rfl, rfl, more⟩)
    · refine wp_if_neg hv ?_
      refine wpAny_bind (wpAny_eqIsQuiet_tuple hk ?_)
      simp only [Bool.not_true, Bool.false_eq_true, if_false]
      refine wpAny_bind (wpAny_eqIsQuiet_tuple hc ?_)
      simp only [Bool.not_true, Bool.false_eq_true, if_false]
      refine wpAny_bind (calm_cls C hk ?_)
      simp only [Bool.false_eq_true, if_false]
      refine wpAny_bind (calm_cls C hc ?_)
      simp only [Bool.false_eq_true, if_false]
      exact wpAny_pure ⟨rfl, rfl, more⟩
  · rintro ⟨r1, r2⟩ s' ⟨hr, rfl, _⟩
    simp only at hr
    subst hr
    exact wpAny_pure h

/-! ### the search -/
/-- the k-th probe for the hash -/
abbrev pr (m : Nat) (h : Int) (c : Nat) : SetTable.Probe := nth m (runAt m (SetTable.bits h % (m + 1)) (SetTable.bits h)) c
theorem pr_add (m : Nat) (h : Int) (c q : Nat) : nth m (pr m h c) q = pr m h (c + q) := (nth_add m c _ q).symm
theorem nth_dummy (m : Nat) : ∀ (n : Nat) (p : SetTable.Probe), p.dummy = none → (nth m p n).dummy = none
  | 0, _, h => h
  | n + 1, p, h => nth_dummy m n (adv m p) (by unfold adv; split <;> exact h)
/-- from the c-th probe on: K is the first empty slot of the way -/
theorem tt_search (C : Calm knd) (T : TT knd s.heap a L es ep t) (tup : ∀ p ∈ L, IsTupleKey knd s.heap p.2 p.1) {x : Addr} {k : List κ} (hx : IsTupleKey knd s.heap k x) (hu : A.units < cLine) {K : Nat} (hKf : K < 10 * SetTable.turns t.mask)
    (hK : way t.mask (th knd k) K ∉ t.place.toList) (hKb : ∀ c, c < K → way t.mask (th knd k) c ∈ t.place.toList) {Q : SetFound → Shared → Prop}
    (hin : k ∈ L.map (·.2) → Q (.there none) s) (hout : k ∉ L.map (·.2) → Q (.free (way t.mask (th knd k) K) false) s) :
    ∀ (f c : Nat) (stand : Option SetTable.Probe), stand.getD (t.probeStart (th knd k)) = pr t.mask (th knd k) c → c ≤ K → K - c < f →
      (∀ (i : Nat) p, L[i]? = some p → p.2 = k → ∃ c', c ≤ c' ∧ c' < K ∧ t.place.toList[i]? = some (way t.mask (th knd k) c')) →
      wpAny (model P w) A (setSearchFrom a (.ref x) (th knd k) true f stand) Q E s := by
  intro f
  induction f with
  | zero => intro c stand _ _ hf _; exact absurd hf (Nat.not_lt_zero _)
  | succ f ih =>
    intro c stand hst hc hf hre
    obtain ⟨o, ho, hex, hd⟩ := T.obj
    have gw : ¬ t.gaveWay = true := by
      unfold SetTable.gaveWay
      rw [mask_odd T.tab.mok]
      decide
    rw [setSearchFrom_succ]
    refine wpAny_bind (wpAny_setState_of ho hd T.fits ?_)
    dsimp only
    refine wp_if_neg gw ?_
    try refine wpAny_bind (wpAny_pure ?_)
    have jj : ∀ q, (nth t.mask (pr t.mask (th knd k) c) q).j = way t.mask (th knd k) (c + q) := fun q => congrArg SetTable.Probe.j (pr_add _ _ c q)
    have spec := go_spec t T.tab.ris T.tab.dm (fun i => (es[i]?.map (·.1)).getD 0) (th knd k) (10 * SetTable.turns t.mask) (K - c) (pr t.mask (th knd k) c) (nth_dummy _ _ _ rfl) (by omega)
      (fun q hq => by rw [jj]; exact hKb (c + q) (by omega)) (by rw [jj, show c + (K - c) = K by omega]; exact hK)
    have hat : ∀ (i : Nat) p, L[i]? = some p → (fun i => (es[i]?.map (·.1)).getD 0) i = th knd p.2 := fun i p hp => by
      show (es[i]?.map (·.1)).getD 0 = _
      rw [T.line hp]; rfl
    rcases spec with ⟨q, i, hq, hi, hh, hno, hpr⟩ | ⟨hno, hpr⟩
    · rw [jj] at hi hpr
      rw [pr_add] at hpr
      have met : t.probe (fun i => (es[i]?.map (·.1)).getD 0) (th knd k) (stand.getD (t.probeStart (th knd k))) = some (.candidate (way t.mask (th knd k) (c + q)) i (pr t.mask (th knd k) (c + (q + 1)))) := by
        rw [hst]; exact hpr
      rw [met]
      dsimp only
      have hil : i < L.length := by
        have h1 := (List.getElem?_eq_some_iff.mp hi).1
        have h2 := T.tab.sz
        rw [List.length_map] at h2
        rw [Array.length_toList] at h1
        omega
      have hp : L[i]? = some L[i] := List.getElem?_eq_getElem hil
      generalize L[i] = p at hp
      have pL : p ∈ L := List.mem_of_getElem? hp
      have go : wpAny (model P w) A (searchRest a (.ref x) (th knd k) true f es t (way t.mask (th knd k) (c + q)) i (pr t.mask (th knd k) (c + (q + 1)))) Q E s := by
        unfold searchRest
        rw [T.line hp]
        dsimp only
        refine wpAny_bind (wpAny_holding (wpAny_eqBool_tuple hu (tup p pL) hx ?_))
        refine wpAny_bind (wpAny_setState_of ho hd T.fits ?_)
        dsimp only
        by_cases hkk : p.2 = k
        · exact wp_if_pos (by simp [hkk]) (wpAny_pure (hin (List.mem_map.mpr ⟨p, pL, hkk⟩)))
        · refine wp_if_neg (by simp [hkk]) ?_
          try refine wpAny_bind (wpAny_pure ?_)
          rw [sameMem]
          dsimp only
          have live := slot_live T.tab.ris hi
          simp only [if_true, live, T.line hp]
          refine wpAny_bind (wpAny_isSame_ref_self (wpAny_bind (wpAny_pure ?_)))
          simp only [if_true]
          refine wp_if_neg (by simp [hkk]) ?_
          refine ih (c + (q + 1)) _ rfl (by omega) (by omega) fun i0 p0 h0 hk0 => ?_
          obtain ⟨c', a1, a2, a3⟩ := hre i0 p0 h0 hk0
          refine ⟨c', ?_, a2, a3⟩
          have e0 : (fun i => (es[i]?.map (·.1)).getD 0) i0 = th knd k := (hat i0 p0 h0).trans (congrArg (fun z => th knd z) hk0)
          have n1 : ¬ c' < c + q := fun z => hno (c' - c) i0 (by omega) (by rw [jj, show c + (c' - c) = c' by omega]; exact a3) e0
          have n2 : c' ≠ c + q := fun z => by
            rw [z] at a3
            have live0 := slot_live T.tab.ris a3
            rw [live] at live0
            injection live0 with e
            rw [← e, hp] at h0
            exact hkk ((congrArg Prod.snd (Option.some.inj h0)).trans hk0)
          omega
      by_cases hl : t.led = true
      · refine wp_if_neg (by simp [hl]) ?_
        try refine wpAny_bind (wpAny_pure ?_)
        exact go
      · refine wp_if_pos (by simp [hl]) ?_
        refine wpAny_bind (calm_seen C hx (fun y hy => ?_) ?_)
        · obtain ⟨e, he, ee⟩ := List.mem_map.mp hy
          have h1 : e ∈ es ∧ e.1 = th knd k := by simpa using he
          have h2 : e ∈ es.toList := by simpa using h1.1
          rw [T.rows] at h2
          obtain ⟨p2, hp2, e2⟩ := List.mem_map.mp h2
          exact ⟨p2.2, p2.1, by rw [← ee, ← e2], tup p2 hp2⟩
        · refine wp_if_neg (by decide) ?_
          try refine wpAny_bind (wpAny_pure ?_)
          exact go
    · rw [jj, show c + (K - c) = K by omega] at hpr
      have met : t.probe (fun i => (es[i]?.map (·.1)).getD 0) (th knd k) (stand.getD (t.probeStart (th knd k))) = some (.empty (way t.mask (th knd k) K) none) := by
        rw [hst]; exact hpr
      rw [met]
      dsimp only
      refine wpAny_pure (hout fun hm => ?_)
      obtain ⟨p0, m0, hk0⟩ := List.mem_map.mp hm
      obtain ⟨i0, h0⟩ := List.mem_iff_getElem?.mp m0
      obtain ⟨c', a1, a2, a3⟩ := hre i0 p0 h0 hk0
      exact hno (c' - c) i0 (by omega) (by rw [jj, show c + (c' - c) = c' by omega]; exact a3) ((hat i0 p0 h0).trans (congrArg (fun z => th knd z) hk0))
theorem tt_find (C : Calm knd) (T : TT knd s.heap a L es ep t) (tup : ∀ p ∈ L, IsTupleKey knd s.heap p.2 p.1) {x : Addr} {k : List κ} (hx : IsTupleKey knd s.heap k x) (hu : A.units < cLine) {Q : SetFound → Shared → Prop}
    (hin : k ∈ L.map (·.2) → Q (.there none) s)
    (hout : ∀ K, k ∉ L.map (·.2) → way t.mask (th knd k) K ∉ t.place.toList → (∀ c, c < K → way t.mask (th knd k) c ∈ t.place.toList) → Q (.free (way t.mask (th knd k) K) false) s) :
    wpAny (model P w) A (setSearch a (.ref x) (th knd k) true) Q E s := by
  have hr := T.room
  obtain ⟨K, hKf, hK, hKb⟩ := T.tab.first (by rw [List.length_map]; omega) (th knd k)
  have big : 10 * SetTable.turns t.mask ≤ 1420 := by
    unfold SetTable.turns
    rcases T.tab.mok with e | e | e <;> omega
  unfold setSearch
  refine tt_search C T tup hx hu hKf hK hKb hin (fun hn => hout K hn hK hKb) 100000 0 none rfl (Nat.zero_le _) (by omega) fun i p hp hk => ?_
  have hi : (L.map fun p => th knd p.2)[i]? = some (th knd k) := by rw [List.getElem?_map, hp, ← hk]; rfl
  have hil : i < t.place.toList.length := by
    have h1 := (List.getElem?_eq_some_iff.mp hp).1
    have h2 := T.tab.sz
    rw [List.length_map] at h2
    rw [Array.length_toList]
    omega
  have hj := List.getElem?_eq_getElem hil
  obtain ⟨c, hc, e⟩ := T.tab.before hK hi hj
  exact ⟨c, Nat.zero_le _, hc, by rw [hj, e]⟩
end
end EpR
end
section
set_option linter.all false
set_option maxRecDepth 100000
set_option maxHeartbeats 4000000
/-! EpR7: adding to a set of tuples. -/
namespace EpR
open PySem PySem.W PySem.Calls PyProof.Rows L2
section
variable {P : Program} {w : World} {κ : Type} [DecidableEq κ] {knd : KeyKind P w κ} {A : Around} {E : Value → Shared → Prop} {s : Shared} {a : Addr} {L : List (Addr × List κ)} {es : Array (Int × Value)} {ep : Nat} {t : SetTable}
theorem tup_same {h h' : Heap} {k : List κ} {b : Addr} {o : Obj} (hb : IsTupleKey knd h k b) (ho : h.get? a = some o) (hd : o.data = .set es ep t) (sb : Heap.SameBut a h h') : IsTupleKey knd h' k b := by
  obtain ⟨o', items, n, ho', hc, hd', hi⟩ := hb
  refine ⟨o', items, n, (sb.2 b ?_).trans ho', hc, hd', hi⟩
  rintro rfl
  rw [ho] at ho'
  cases ho'
  rw [hd] at hd'
  cases hd'
theorem perm_put {α : Type} (L : List α) (p : Nat) (x : α) : (L.take p ++ x :: L.drop p).Perm (x :: L) := by
  have h := List.perm_middle (a := x) (l₁ := L.take p) (l₂ := L.drop p)
  rw [List.take_append_drop] at h
  exact h
/-- the rows in another order -/
theorem lines_order (hr : es.toList = lines knd L) {order : Array Nat} (hp : order.toList.Perm (List.range L.length)) :
    ∃ L2, (order.filterMap (es[·]?)).toList = lines knd L2 ∧ L2.Perm L ∧ (L2.map fun p => th knd p.2) = order.toList.map fun i => (es.map (·.1)).getD i 0 := by
  have row : ∀ i (h : i < L.length), es[i]? = some (th knd (L[i]).2, Value.ref (L[i]).1) := fun i h => by
    rw [← Array.getElem?_toList, hr]
    unfold lines
    rw [List.getElem?_map, List.getElem?_eq_getElem h]; rfl
  have gen : ∀ l : List Nat, (∀ i ∈ l, i < L.length) → l.filterMap (fun i => es[i]?) = lines knd (l.filterMap fun i => L[i]?) ∧ ((l.filterMap fun i => L[i]?).map fun p => th knd p.2) = l.map fun i => (es.map (·.1)).getD i 0 := by
    intro l
    induction l with
    | nil => intro _; exact ⟨rfl, rfl⟩
    | cons i l ih =>
      intro hl
      have hi := hl i List.mem_cons_self
      obtain ⟨e1, e2⟩ := ih fun j hj => hl j (List.mem_cons_of_mem _ hj)
      rw [List.filterMap_cons_some (row i hi), List.filterMap_cons_some (List.getElem?_eq_getElem hi), e1]
      refine ⟨rfl, ?_⟩
      rw [List.map_cons, List.map_cons, e2]
      have e3 : (es.map (·.1))[i]? = some (th knd (L[i]).2) := by rw [Array.getElem?_map, row i hi]; rfl
      have e4 : (es.map (·.1)).getD i 0 = th knd (L[i]).2 := by rw [Array.getD_eq_getD_getElem?, e3]; rfl
      rw [e4]
  obtain ⟨e1, e2⟩ := gen order.toList fun i hi => List.mem_range.mp (hp.mem_iff.mp hi)
  refine ⟨order.toList.filterMap fun i => L[i]?, by first | (rw [Array.toList_filterMap]; exact e1) | simpa using e1, ?_, e2⟩
  have h1 : (order.toList.filterMap fun i => L[i]?).Perm ((List.range L.length).filterMap fun i => L[i]?) := hp.filterMap _
  have h2 : ∀ n, n ≤ L.length → (List.range n).filterMap (fun i => L[i]?) = L.take n := by
    intro n
    induction n with
    | zero => intro _; rfl
    | succ n ih =>
      intro hn
      rw [List.range_succ, List.filterMap_append, ih (Nat.le_of_lt hn), List.take_add_one, List.getElem?_eq_getElem hn, List.filterMap_cons_some (List.getElem?_eq_getElem hn)]
      rfl
  rw [h2 L.length (Nat.le_refl _), List.take_length] at h1
  exact h1
/-- the table laid anew, larger -/
theorem tt_relay {o : Obj} (ho : s.heap.get? a = some o) (hex : o.ExactSet) (hd : o.data = .set es ep t) (hr : es.toList = lines knd L) (hsz : t.place.size = es.size) (hdm : t.dummies = #[]) (hfl : es.size ≤ t.mask)
    (nd : (L.map (·.2)).Nodup) (ld : w.params.followText "set-order" = true ∨ t.led = true) (few : L.length < 64) {wanted M : Nat}
    (hw : SetTable.sizeAbove wanted - 1 = M) (hM : MaskOk M) (hw2 : SetTable.sizeAbove wanted ≤ 128) (hn : L.length * 5 < M * 3) {Q : Unit → Shared → Prop}
    (hQ : ∀ h' L' es' ep' t', Heap.SameBut a s.heap h' → TT knd h' a L' es' ep' t' → L'.Perm L → Q () { s with heap := h' }) : wpAny (model P w) A (setRelay a wanted) Q E s := by
  have hsl : es.size = L.length := by
    have e := congrArg List.length hr
    rw [Array.length_toList] at e
    rw [e]; exact List.length_map ..
  have hfits : t.fits es.size = true := by
    unfold SetTable.fits SetTable.fill
    rw [hdm]
    simp only [Bool.and_eq_true, beq_iff_eq, decide_eq_true_eq]
    exact ⟨hsz, by show t.place.size + 0 ≤ t.mask; omega⟩
  obtain ⟨t', order, e, hp, T, em, el, _, ed⟩ := relaid_ok t (hs := es.map (·.1)) (wanted := wanted) hw hM (by rw [Array.size_map, hsl]; omega)
  rw [Array.size_map, hsl] at hp
  obtain ⟨L2, r1, r2, r3⟩ := lines_order hr hp
  rw [← r3] at T
  have hs2 : (order.filterMap (es[·]?)).size = es.size := by
    have q := congrArg List.length r1
    rw [Array.length_toList] at q
    rw [q, hsl, ← r2.length_eq]; exact List.length_map ..
  rw [setRelay_eq]
  refine wpAny_bind (wpAny_setState_of ho hd hfits ?_)
  dsimp only
  refine wp_if_neg (by rw [sizeLine_eq]; omega) ?_
  try refine wpAny_bind (wpAny_pure ?_)
  rw [e]
  dsimp only
  refine wpAny_bind ?_
  refine wp_if_neg (by rw [hs2]; simp) ?_
  try refine wpAny_bind (wpAny_pure ?_)
  refine wpAny_pure ?_
  dsimp only
  refine wpAny_storeSet_of ho hd ?_ (by rw [hs2, hsl, sizeLine_eq]; omega)
  refine hQ _ L2 (order.filterMap (es[·]?)) (ep + 1) t' (Heap.SameBut.update ..) ⟨⟨_, store_at ho hd, ⟨hex.1, hex.2.1, hex.2.2⟩, rfl⟩, r1, T, (r2.map (·.2)).nodup_iff.mpr nd, by rw [el]; exact ld, by rw [r2.length_eq, em]; exact hn, by rw [r2.length_eq]; exact few⟩ r2
theorem tab_plain {t : SetTable} {hs : List Int} (T : TabOk t hs) (b : Bool) : TabOk { t with plain := b } hs := ⟨T.ris, T.dm, T.sz, T.mok, T.bd, T.reach⟩
/-- behind the place: the row comes in, the table is laid anew if it is too full -/
theorem tt_put (T : TT knd s.heap a L es ep t) {x : Addr} {k : List κ} (few : L.length + 1 < 64) (hm : k ∉ L.map (·.2)) {K : Nat} (hK : way t.mask (th knd k) K ∉ t.place.toList) (hb : ∀ c, c < K → way t.mask (th knd k) c ∈ t.place.toList) (pl : SetTable → Bool) {Q : Bool → Shared → Prop}
    (hQ : ∀ h' L' es' ep' t', Heap.SameBut a s.heap h' → TT knd h' a L' es' ep' t' → L'.Perm ((x, k) :: L) → Q true { s with heap := h' }) :
    wpAny (model P w) A (do
      storeSet a (SetTable.insertAt es (t.put (way t.mask (th knd k) K)).2 (th knd k, Value.ref x)) { (t.put (way t.mask (th knd k) K)).1 with plain := pl (t.put (way t.mask (th knd k) K)).1 }
      if (!false && SetTable.tooFull { (t.put (way t.mask (th knd k) K)).1 with plain := pl (t.put (way t.mask (th knd k) K)).1 }) = true then do
          setRelay a (SetTable.grown (es.size + 1))
          pure true
        else pure true) Q E s := by
  obtain ⟨o, ho, hex, hd⟩ := T.obj
  have hsl := T.size
  have hroom := T.room
  obtain ⟨q1, q2, q3, q4, q5, q6, q7, q8, q9⟩ := T.tab.put hK hb
  generalize t.put (way t.mask (th knd k) K) = pt at q1 q3 q4 q5 q9 ⊢
  obtain ⟨t0, p⟩ := pt
  dsimp only at q1 q3 q4 q5 q9 ⊢
  subst q1
  generalize SetTable.below t.place (way t.mask (th knd k) K) = p at q2 q3 ⊢
  have q3' := tab_plain q3 (pl t0)
  have q9' : SetTable.fill { t0 with plain := pl t0 } = (L.map fun p => th knd p.2).length + 1 := q9
  generalize ht1 : ({ t0 with plain := pl t0 } : SetTable) = t1 at q3' q9' ⊢
  have m1 : t1.mask = t.mask := by rw [← ht1]; exact q4
  have l1 : w.params.followText "set-order" = true ∨ t1.led = true := T.led.imp id fun z => by rw [← ht1]; show t0.led = true; rw [q5]; exact z
  have rows1 : (SetTable.insertAt es p (th knd k, Value.ref x)).toList = lines knd (L.take p ++ (x, k) :: L.drop p) := by
    rw [SetTable.toList_insertAt, T.rows]
    unfold lines
    rw [List.map_append, List.map_cons, List.map_take, List.map_drop]
  have pm := perm_put L p (x, k)
  have hhs : (L.take p ++ (x, k) :: L.drop p).map (fun p => th knd p.2) = (L.map fun p => th knd p.2).take p ++ th knd k :: (L.map fun p => th knd p.2).drop p := by
    rw [List.map_append, List.map_cons, List.map_take, List.map_drop]
  rw [← hhs] at q3'
  have nd1 : ((L.take p ++ (x, k) :: L.drop p).map (·.2)).Nodup := (pm.map (·.2)).nodup_iff.mpr (List.nodup_cons.mpr ⟨hm, T.nd⟩)
  generalize L.take p ++ (x, k) :: L.drop p = L1 at pm q3' nd1 rows1
  have len1 : L1.length = L.length + 1 := pm.length_eq
  have es1 : (SetTable.insertAt es p (th knd k, Value.ref x)).size = L.length + 1 := by
    have e := congrArg List.length rows1
    rw [Array.length_toList] at e
    rw [e, ← len1]; exact List.length_map ..
  generalize SetTable.insertAt es p (th knd k, Value.ref x) = e1 at rows1 es1 ⊢
  refine wpAny_bind (wpAny_storeSet_of ho hd ?_ (by rw [es1, sizeLine_eq]; omega))
  have sb : Heap.SameBut a s.heap (s.heap.update a (Obj.putSet e1 t1)) := Heap.SameBut.update ..
  have ho1 := store_at (es' := e1) (t' := t1) ho hd
  generalize s.heap.update a (Obj.putSet e1 t1) = h1 at sb ho1 ⊢
  by_cases hf : t1.tooFull = true
  · refine wp_if_pos (by simp [hf]) ?_
    have full : (L.length + 1) * 5 ≥ t.mask * 3 := by
      have h := hf
      unfold SetTable.tooFull at h
      rw [decide_eq_true_eq, q9', List.length_map, m1] at h
      exact h
    have two : (t.mask = 7 ∧ L.length = 4) ∨ (t.mask = 31 ∧ L.length = 18) := by
      rcases T.tab.mok with e | e | e <;> rw [e] at full hroom
      · exact .inl ⟨e, by omega⟩
      · exact .inr ⟨e, by omega⟩
      · omega
    have sz1 : t1.place.size = e1.size := by
      have h := q3'.sz
      rw [List.length_map, len1] at h
      rw [h, es1]
    rw [hsl]
    have go : ∀ M, SetTable.sizeAbove (SetTable.grown (L.length + 1)) - 1 = M → MaskOk M → SetTable.sizeAbove (SetTable.grown (L.length + 1)) ≤ 128 → (L.length + 1) * 5 < M * 3 → L.length + 1 ≤ t.mask →
        wpAny (model P w) A (setRelay a (SetTable.grown (L.length + 1))) (fun _ s' => wpAny (model P w) A (pure true) Q E s') E { s with heap := h1 } := fun M g1 g2 g3 g4 g5 => by
      refine tt_relay (s := { s with heap := h1 }) ho1 ⟨hex.1, hex.2.1, hex.2.2⟩ rfl rows1 sz1 q3'.dm (by rw [es1, m1]; exact g5) nd1 l1 (by rw [len1]; exact few) g1 g2 g3 (by rw [len1]; exact g4) ?_
      intro h2 L2 es2 ep2 t2 sb2 T2 pm2
      exact wpAny_pure (hQ h2 L2 es2 ep2 t2 (sb.trans sb2) T2 (pm2.trans pm))
    refine wpAny_bind ?_
    rcases two with ⟨e, e2⟩ | ⟨e, e2⟩
    · exact go 31 (by rw [e2, size_20]) (.inr (.inl rfl)) (by rw [e2, size_20]; decide) (by omega) (by omega)
    · exact go 127 (by rw [e2, size_76]) (.inr (.inr rfl)) (by rw [e2, size_76]; decide) (by omega) (by omega)
  · refine wp_if_neg (by simp [hf]) ?_
    refine wpAny_pure (hQ h1 L1 e1 (ep + 1) t1 sb ⟨⟨_, ho1, ⟨hex.1, hex.2.1, hex.2.2⟩, rfl⟩, rows1, q3', nd1, l1, ?_, by rw [len1]; exact few⟩ pm)
    have h := hf
    unfold SetTable.tooFull at h
    rw [decide_eq_true_eq, q9', List.length_map] at h
    rw [len1]
    omega
theorem tt_add (C : Calm knd) (T : TT knd s.heap a L es ep t) (tup : ∀ p ∈ L, IsTupleKey knd s.heap p.2 p.1) {x : Addr} {k : List κ} (hx : IsTupleKey knd s.heap k x) (hu : A.units < cLine) (few : k ∉ L.map (·.2) → L.length + 1 < 64) {Q : Bool → Shared → Prop}
    (hQ : ∀ b h' L' es' ep' t', Heap.SameBut a s.heap h' → TT knd h' a L' es' ep' t' → (k ∈ L.map (·.2) → L' = L) → (k ∉ L.map (·.2) → L'.Perm ((x, k) :: L)) → Q b { s with heap := h' }) :
    wpAny (model P w) A (setAddHashed a (.ref x) (th knd k)) Q E s := by
  obtain ⟨o, ho, hex, hd⟩ := T.obj
  unfold setAddHashed
  refine wpAny_holding ?_
  rw [show (100000 : Nat) = 99999 + 1 from rfl, setAddHashedIn_succ]
  refine wpAny_bind (wpAny_setState_of ho hd T.fits ?_)
  dsimp only
  refine wp_if_neg (by simp [byScan, Value.scannable]) ?_
  try refine wpAny_bind (wpAny_pure ?_)
  refine wpAny_bind (tt_find C T tup hx hu (fun hm => ?_) fun K hm hK hb => ?_)
  · dsimp only
    exact wpAny_pure (hQ false s.heap L es ep t (Heap.SameBut.refl a s.heap) T (fun _ => rfl) fun z => absurd hm z)
  · dsimp only
    refine wpAny_bind (wpAny_setState_of ho hd T.fits ?_)
    dsimp only
    have fin := fun (h' : Heap) (L' : List (Addr × List κ)) (es' : Array (Int × Value)) (ep' : Nat) (t' : SetTable) (sb : Heap.SameBut a s.heap h') (T' : TT knd h' a L' es' ep' t') (pm : L'.Perm ((x, k) :: L)) => hQ true h' L' es' ep' t' sb T' (fun z => absurd z hm) fun _ => pm
    split
    · refine wpAny_bind (calm_byv C hx fun c => ?_)
      cases c
      · simp only [Bool.false_eq_true, if_false]
        exact tt_put T (few hm) hm hK hb (fun _ => false) fin
      · simp only [if_true]
        exact tt_put T (few hm) hm hK hb (fun t => t.plain) fin
    · refine wpAny_bind (wpAny_pure ?_)
      simp only [if_true]
      exact tt_put T (few hm) hm hK hb (fun t => t.plain) fin
end
end EpR
end
section
set_option linter.all false
set_option maxRecDepth 100000
set_option maxHeartbeats 4000000
/-! EpR8: sorted(set(xs)), xs a list of pairs (number, text), as a rule; how such pairs are ordered. -/
namespace EpR
open PySem PySem.W PySem.Calls PyProof.Rows L2

theorem calm_mix (P : Program) (w : World) : Calm (mixKind P w) where
  cls := fun k v h n => by
    rcases keyIs_shape h with ⟨i, t, _, rfl⟩ | ⟨x, t, _, rfl⟩ <;> cases n <;> rfl
  byv := fun k v h => by
    rcases keyIs_shape h with ⟨i, t, _, rfl⟩ | ⟨x, t, _, rfl⟩
    · exact ⟨true, fun n => by cases n <;> rfl⟩
    · exact ⟨false, fun n => by cases n <;> rfl⟩
/-- pairs (number, text) -/
theorem le_is {i j : Int} {x y : Str} (h : (!dataLt (.tuple [.int j, .str y]) (.tuple [.int i, .str x])) = true) : i < j ∨ (i = j ∧ ¬ y.cps.toList < x.cps.toList) := by
  rw [dataLt_pair (by simp [alike]) (by simp [alike]), dataLt_int, dataLt_str] at h
  simp only [PyData.eqv, beq_iff_eq] at h
  by_cases h1 : j = i
  · subst h1
    rw [if_pos rfl] at h
    by_cases h2 : y = x
    · subst h2
      refine .inr ⟨rfl, fun z => ?_⟩
      exact List.lt_irrefl _ z
    · rw [if_neg h2] at h
      simp at h
      exact .inr ⟨rfl, List.not_lt.mpr h⟩
  · rw [if_neg h1] at h
    simp at h
    exact .inl (by omega)
/-- pairs (number, pair of numbers) -/
theorem le_ip {i j a b c d : Int} (h : (!dataLt (.tuple [.int j, .tuple [.int c, .int d]]) (.tuple [.int i, .tuple [.int a, .int b]])) = true) : i ≤ j := by
  rw [dataLt_pair (by simp [alike]) (by simp [alike, alikeAll]), dataLt_int] at h
  simp only [PyData.eqv, beq_iff_eq] at h
  by_cases h1 : j = i
  · omega
  · rw [if_neg h1] at h
    simp at h
    exact h
theorem perm_back {α β : Type} {f : α → β} {vs ws : List β} (h : vs.Perm ws) : ∀ {L : List α}, ws = L.map f → ∃ L' : List α, L'.Perm L ∧ vs = L'.map f := by
  induction h with
  | nil => intro L e; exact ⟨L, .refl _, e⟩
  | cons x _ ih =>
    intro L e
    cases L with
    | nil => simp at e
    | cons a L =>
      rw [List.map_cons] at e
      obtain ⟨e1, e2⟩ := List.cons.inj e
      obtain ⟨L', p, q⟩ := ih e2
      exact ⟨a :: L', p.cons a, by rw [List.map_cons, e1, q]⟩
  | swap x y l =>
    intro L e
    match L, e with
    | a :: b :: L, e =>
      simp only [List.map_cons] at e
      obtain ⟨e1, e2⟩ := List.cons.inj e
      obtain ⟨e2, e3⟩ := List.cons.inj e2
      exact ⟨b :: a :: L, .swap a b L, by simp only [List.map_cons, e1, e2, e3]⟩
  | trans _ _ ih1 ih2 =>
    intro L e
    obtain ⟨L1, p1, q1⟩ := ih2 e
    obtain ⟨L2, p2, q2⟩ := ih1 q1
    exact ⟨L2, p2.trans p1, q2⟩
abbrev kT (z : Addr × Int × Str) : Addr × List L2.Key := (z.1, [Sum.inl z.2.1, Sum.inr z.2.2])
theorem kT_back {bs : List (Addr × Int × Str)} : ∀ {L : List (Addr × List L2.Key)}, (∀ p ∈ L, p ∈ bs.map kT) → ∃ zs : List (Addr × Int × Str), L = zs.map kT ∧ ∀ z ∈ zs, z ∈ bs
  | [], _ => ⟨[], rfl, fun _ h => nomatch h⟩
  | p :: L, h => by
    obtain ⟨z, hz, e⟩ := List.mem_map.mp (h p List.mem_cons_self)
    obtain ⟨zs, e1, hs⟩ := kT_back fun q hq => h q (List.mem_cons_of_mem _ hq)
    refine ⟨z :: zs, by rw [List.map_cons, e, e1], fun y hy => ?_⟩
    rcases List.mem_cons.mp hy with r | r
    · rw [r]; exact hz
    · exact hs y r
section
variable {P : Program} {w : World} {S : Addr} {h0 : Heap}
/-- the set at S has just what ks tell up to i -/
def PSet (P : Program) (w : World) (S : Addr) (ks : List (Addr × List L2.Key)) (i : Nat) (h : Heap) : Prop :=
  ∃ L es ep t, TT (mixKind P w) h S L es ep t ∧ (∀ p ∈ L, p ∈ ks.take i) ∧ ∀ p ∈ ks.take i, p.2 ∈ L.map (·.2)
theorem fill_pairs {items : Array Value} {ks : List (Addr × List L2.Key)} (hi : items.toList = ks.map fun p => Value.ref p.1) (hk : ∀ p ∈ ks, IsTupleKey (mixKind P w) h0 p.2 p.1) {D : List (List L2.Key)} (hD : D.length < 64) (hs : ∀ p ∈ ks, p.2 ∈ D) {most : Nat} (hm : most < cLine) :
    Fill P w most S h0 items (PSet P w S ks) where
  new := fun h e => ⟨[], #[], 0, _, ⟨⟨_, e, ⟨rfl, rfl, rfl⟩, rfl⟩, rfl, ⟨List.Pairwise.nil, rfl, rfl, .inl rfl, fun x hx => (by cases hx), fun i h j hi => (by simp at hi)⟩, List.nodup_nil, by
      show _ ∨ (!w.params.followText "set-order") = true
      cases w.params.followText "set-order"
      · exact .inr rfl
      · exact .inl rfl, by show 0 * 5 < 7 * 3; decide, by show 0 < 64; decide⟩, fun p hp => (by cases hp), fun p hp => (by simp at hp)⟩
  keep := fun i h h' T k => by
    obtain ⟨L, es, ep, t, T, a1, a2⟩ := T
    obtain ⟨o, ho, r⟩ := T.obj
    exact ⟨L, es, ep, t, ⟨⟨o, k o ho, r⟩, T.rows, T.tab, T.nd, T.led, T.room, T.few⟩, a1, a2⟩
  add := fun A E i v s Q hu hv kp T hQ => by
    obtain ⟨L, es, ep, t, T, a1, a2⟩ := T
    have hv' : (ks.map fun p => Value.ref p.1)[i]? = some v := by rw [← hi, Array.getElem?_toList]; exact hv
    rw [List.getElem?_map] at hv'
    obtain ⟨p, hp, rfl⟩ := Option.map_eq_some_iff.mp hv'
    have pk : p ∈ ks := List.mem_of_getElem? hp
    have kk : ∀ q ∈ ks, IsTupleKey (mixKind P w) s.heap q.2 q.1 := fun q hq => by
      obtain ⟨o, its, n, ho, r⟩ := hk q hq
      exact ⟨o, its, n, kp _ _ ho, r⟩
    have tk : ks.take (i + 1) = ks.take i ++ [p] := by rw [List.take_add_one, hp]; rfl
    have sub : ∀ q ∈ L, q ∈ ks := fun q hq => List.mem_of_mem_take (a1 q hq)
    have hu' : A.units < cLine := Nat.lt_of_le_of_lt hu hm
    unfold setAdd
    refine wpAny_holding ?_
    refine wpAny_bind (wpAny_pyHash_tuple hu' (kk p pk) ?_)
    refine tt_add (s := { s with toks := s.toks + (p.2.length + 1) }) (calm_mix P w) T (fun q hq => kk q (sub q hq)) (kk p pk) hu' (fun hn => ?_) fun b h' L' es' ep' t' sb T' c1 c2 => hQ b h' _ (Nat.le_add_right _ _) sb ⟨L', es', ep', t', T', ?_, ?_⟩
    · have nd : (p.2 :: L.map (·.2)).Nodup := List.nodup_cons.mpr ⟨hn, T.nd⟩
      have le : (p.2 :: L.map (·.2)).length ≤ D.length := by
        refine EP.sub_len nd fun x hx => ?_
        rcases List.mem_cons.mp hx with e | hx
        · rw [e]; exact hs p pk
        · obtain ⟨q, hq, rfl⟩ := List.mem_map.mp hx
          exact hs q (sub q hq)
      rw [List.length_cons, List.length_map] at le
      omega
    · intro q hq
      rw [tk]
      rcases Classical.em (p.2 ∈ L.map (·.2)) with c | c
      · rw [c1 c] at hq
        exact List.mem_append_left _ (a1 q hq)
      · rcases List.mem_cons.mp ((c2 c).mem_iff.mp hq) with e | e
        · exact List.mem_append_right _ (by rw [e]; exact List.mem_singleton.mpr rfl)
        · exact List.mem_append_left _ (a1 q e)
    · intro q hq
      rw [tk] at hq
      rcases Classical.em (p.2 ∈ L.map (·.2)) with c | c
      · rw [c1 c]
        rcases List.mem_append.mp hq with z | z
        · exact a2 q z
        · rw [List.mem_singleton.mp z]; exact c
      · rw [((c2 c).map (·.2)).mem_iff, List.map_cons]
        rcases List.mem_append.mp hq with z | z
        · exact List.mem_cons_of_mem _ (a2 q z)
        · rw [List.mem_singleton.mp z]; exact List.mem_cons_self
end
/-- sorted(set(xs)), xs a list of pairs (number, text), fewer than 64 unlike ones -/
def tSortSetT (K : PySem.W.Frag) (te : TE) : TE := fun σ H Q => te σ H fun x H1 => ∃ (a : Addr) (bs : List (Addr × Int × Str)) (D : List (Int × Str)), x = .ref a ∧ SqL K H1 a (bs.map fun b => V.ref b.1) ∧ (∀ b ∈ bs, SqT K H1 b.1 [.int b.2.1, .str b.2.2]) ∧ D.length < 64 ∧ (∀ b ∈ bs, b.2 ∈ D) ∧
  ∀ (zs : List (Addr × Int × Str)) (p : Addr), (∀ z ∈ zs, z ∈ bs) → (∀ v, v ∈ zs.map (·.2) ↔ v ∈ bs.map (·.2)) → zs.Pairwise (fun y z => y.2.1 < z.2.1 ∨ (y.2.1 = z.2.1 ∧ y.2.2.cps.toList < z.2.2.cps.toList)) → H1 p = none → Q (.ref p) (upd H1 p (.lst (zs.map fun z => V.ref z.1)))
section
variable {X : Cx}
theorem key_pair {pins : List (Addr × Obj)} {σ : L2.St} {H : Hp} {s : Shared} {b : Addr} {i : Int} {x : Str} (I : Inv X pins σ H s) (h : SqT X.K H b [.int i, .str x]) : IsTupleKey (mixKind X.prog X.w) s.heap [Sum.inl i, Sum.inr x] b := by
  obtain ⟨its, r, ⟨o, ho, hc, n, hd⟩, _⟩ := I.tuple h
  obtain ⟨u, v, rfl, ⟨t1, rfl⟩, ⟨t2, rfl⟩⟩ := vals_two r
  exact ⟨o, _, n, ho, hc, hd, .cons (keyIs_int i t1) (.cons (keyIs_str x t2) .nil)⟩
theorem refs_val : ∀ {bs : List (Addr × Int × Str)} {us : List Value}, Vals (bs.map fun b => V.ref b.1) us → us = bs.map fun b => Value.ref b.1
  | [], _, .nil => rfl
  | b :: bs, _, .cons r t => by
    cases r
    rw [refs_val t]; rfl
theorem pe_sortSetT {e : Expr} {te : TE} {p p2 q pos : Pos} (hc : X.calm = true) (hu : X.A.units + 64 < cLine) (hg : Gl X "sorted") (hm : X.mg "sorted" = none) (hg2 : Gl X "set") (hm2 : X.mg "set" = none) (he : PE X e te)
    (na : starEach [e] X.env = (false, eval e X.env) :: starEach [] X.env := by rfl) :
    PE X (.Call (.Name "sorted" p) [.Call (.Name "set" p2) [e] [] q] [] pos) (tSortSetT X.K te) := by
  refine ⟨fun pins s σ H Q I h => ?_⟩
  refine Call_ (ld_blt I hg hm boot_sorted ?_)
  refine PyProof.Rows.callWith_builtin1 (PyProof.Rows.args_cons ?_ rfl) rfl rfl
  refine Call_ (ld_blt I hg2 hm2 boot_set ?_)
  refine PyProof.Rows.callWith_type1 (PyProof.Rows.args_cons (thn (he.run pins s σ H _ I h) fun v s1 ⟨x, H1, I1, r1, q1⟩ => PyProof.Rows.args_nil ?_) na) na rfl
  obtain ⟨a, bs, D, rfl, hx, ht, hD, hDs, q2⟩ := q1
  cases r1
  obtain ⟨its, rv, p1, hz1⟩ := I1.list hx
  rw [List.length_map] at hz1
  have hh : X.A.handled = none := I1.ok.hd hc
  have eits := refs_val rv
  have kks : ∀ p ∈ bs.map kT, IsTupleKey (mixKind X.prog X.w) s1.heap p.2 p.1 := fun p hp => by
    obtain ⟨b, hb, rfl⟩ := List.mem_map.mp hp
    exact key_pair I1 (ht b hb)
  refine call_set_fill (fill_pairs (P := X.prog) (w := X.w) (ks := bs.map kT) (D := D.map fun d => [Sum.inl d.1, Sum.inr d.2]) (by rw [List.map_map]; show its.toArray.toList = bs.map (fun b => Value.ref b.1); simpa using eits) kks (by rw [List.length_map]; exact hD) (fun p hp => ?_) (by show X.A.units + 3 < cLine; omega)) hh p1.isList fun h2 tk k T => ?_
  · obtain ⟨b, hb, rfl⟩ := List.mem_map.mp hp
    exact List.mem_map.mpr ⟨b.2, hDs b hb, rfl⟩
  refine PyProof.Rows.args_nil ?_
  have nlen : its.toArray.size = (bs.map kT).length := by rw [List.size_toArray, eits, List.length_map, List.length_map]
  rw [nlen] at T
  obtain ⟨L, es, ep, t, T, a1, a2⟩ := T
  rw [List.take_length] at a1 a2
  obtain ⟨o, ho, hex, hd⟩ := T.obj
  have I2 : Inv X pins σ H1 { s1 with heap := h2, toks := tk } := I1.kept (t' := tk) k
  have few := T.few
  refine sorted_coll (s := { s1 with heap := h2, toks := tk }) (Good := fun vs s2 => (∀ b o, h2.get? b = some o → s2.heap.get? b = some o) ∧ s2.gens = s1.gens ∧ s2.os = s1.os ∧ vs.Perm (es.toList.map (·.2)))
    (collect_set (A := X.A.in1) hh ⟨o, ho, hex.1, hd⟩ T.fits (by rw [T.size]; unfold scanBound; omega) T.tab.ris T.led fun s2 out k2 _ g2 o2 pm => ⟨k2, g2, o2, pm⟩) ?_
  rintro vs s2 ⟨k2, g2, o2, pm⟩
  have J : Inv X pins σ H1 s2 := I2.call' (s' := s2) (ch := []) (H' := H1) o2 (Un.kept k2) (I2.hok.kept k2) (by rw [g2]; exact I1.bare) (fun _ z => nomatch z)
  have er : es.toList.map (·.2) = L.map fun q => Value.ref q.1 := by
    rw [T.rows]
    unfold lines
    rw [List.map_map]; rfl
  obtain ⟨L', pL, ev⟩ := perm_back pm er
  obtain ⟨zs, eL, zb⟩ := kT_back (L := L') fun p hp => a1 p (pL.mem_iff.mp hp)
  subst eL
  rw [List.map_map] at ev
  have lz : zs.length < 64 := by
    have := pL.length_eq
    rw [List.length_map] at this
    omega
  have ndz : (zs.map (·.2)).Nodup := by
    have h1 : ((zs.map kT).map (·.2)).Nodup := (pL.map (·.2)).nodup_iff.mpr T.nd
    rw [List.map_map] at h1
    have h2 : (zs.map (·.2)).Pairwise fun x y => x ≠ y := by
      rw [List.pairwise_map]
      refine (List.pairwise_map.mp h1).imp fun {x y} hne e => hne ?_
      show [Sum.inl x.2.1, Sum.inr x.2.2] = [Sum.inl y.2.1, Sum.inr y.2.2]
      rw [e]
    exact h2
  have eR : EachIs (fun (u : Value) (z : Addr × Int × Str) => u = Value.ref z.1) vs zs := by
    rw [ev]
    clear ev pL zb lz ndz
    induction zs with
    | nil => exact .nil
    | cons z zs ih => exact .cons rfl ih
  refine ⟨Addr × Int × Str, fun z => .tuple [.int z.2.1, .str z.2.2], fun u z => u = .ref z.1, zs, eR, ?_, AllAlike.of fun b b' => by simp [alike, alikeAll], Sortable.tuples fun z => ⟨_, _, rfl⟩, by rw [sizeLine_eq]; omega, fun b _ => ?_, fun out h3 pp c hout k3 hp hob => ?_⟩
  · have all : ∀ {us : List Value} {ys : List (Addr × Int × Str)}, (∀ y ∈ ys, y ∈ bs) → EachIs (fun (u : Value) (z : Addr × Int × Str) => u = Value.ref z.1) us ys → EachIs (fun u z => Reads s2.heap u (.tuple [.int z.2.1, .str z.2.2]) []) us ys := by
      intro us ys hy e
      induction e with
      | nil => exact .nil
      | @cons u z us ys h _ ih =>
        refine .cons ?_ (ih fun y m => hy y (List.mem_cons_of_mem _ m))
        exact (Flat.pair (ht z (hy z List.mem_cons_self)) (.int _) (.str _)).reads J h
    exact all zb eR
  · show X.A.units + 3 + (PyData.tuple [.int b.2.1, .str b.2.2]).depth < cLine
    have : (PyData.tuple [.int b.2.1, .str b.2.2]).depth ≤ 8 := by simp [PyData.depth, PyData.depthAll]
    omega
  · obtain ⟨f1, f2⟩ := sort_facts (fun z : Addr × Int × Str => .tuple [.int z.2.1, .str z.2.2]) zs
    generalize zs.mergeSort (dataLe false fun z => .tuple [.int z.2.1, .str z.2.2]) = ys at f1 f2 hout
    have lys : ys.length ≤ sizeLine := by rw [f1.length_eq, sizeLine_eq]; omega
    have ho2 := hout
    have hv : Vals (ys.map fun z => V.ref z.1) out := by
      clear f1 f2 lys ho2 hob
      induction hout with
      | nil => exact .nil
      | cons h _ ih => exact .cons h ih
    have J2 : Inv X pins σ (upd H1 pp (.lst (ys.map fun z => V.ref z.1))) { s2 with heap := h3 } := J.laid (t' := s2.toks) k3 hp ⟨by rw [List.length_map]; exact lys, out, c, hv, hob⟩
    refine ⟨.ref pp, _, J2, rfl, q2 ys pp (fun z hz => zb z (f1.mem_iff.mp hz)) (fun v => ?_) ?_ (J.hok.fresh hp)⟩
    · rw [(f1.map (·.2)).mem_iff]
      constructor
      · intro h
        obtain ⟨z, hz, rfl⟩ := List.mem_map.mp h
        exact List.mem_map.mpr ⟨z, zb z hz, rfl⟩
      · intro h
        obtain ⟨b, hb, rfl⟩ := List.mem_map.mp h
        have h1 := a2 (kT b) (List.mem_map.mpr ⟨b, hb, rfl⟩)
        obtain ⟨p, hp, e⟩ := List.mem_map.mp h1
        obtain ⟨z, hz, rfl⟩ := List.mem_map.mp (pL.mem_iff.mpr hp)
        refine List.mem_map.mpr ⟨z, hz, ?_⟩
        have e' : [Sum.inl z.2.1, Sum.inr z.2.2] = ([Sum.inl b.2.1, Sum.inr b.2.2] : List L2.Key) := e
        simp only [List.cons.injEq, Sum.inl.injEq, Sum.inr.injEq, and_true] at e'
        exact Prod.ext e'.1 e'.2
    · have ndy : ys.Pairwise fun x y => x.2 ≠ y.2 := by
        have : (ys.map (·.2)).Nodup := (f1.map (·.2)).nodup_iff.mpr ndz
        exact List.pairwise_map.mp this
      refine (f2.and ndy).imp fun {x y} q => ?_
      rcases le_is (show (!dataLt (.tuple [.int y.2.1, .str y.2.2]) (.tuple [.int x.2.1, .str x.2.2])) = true from q.1) with h | ⟨h, h2⟩
      · exact .inl h
      · refine .inr ⟨h, Decidable.byContradiction fun z => q.2 ?_⟩
        have e : x.2.2.cps.toList = y.2.2.cps.toList := Std.Antisymm.antisymm (r := fun x y : List Nat => x ≤ y) _ _ h2 z
        exact Prod.ext h (str_tl e)
end
end EpR
end
section
set_option linter.all false
set_option maxRecDepth 100000
set_option maxHeartbeats 4000000
/-! EpR9: for i, x in enumerate(t), t a tuple. -/
namespace EpR
open PySem PySem.W PySem.Calls PyProof.Rows L2

/-- enumerate(v) of what an iterator is made of -/
theorem enum_one {v : Value} {o : Obj} {G : Heap → Prop} (B : Begins v o G) :
    Meets (Builtin.«enumerate.__new__» ⟨[.type "enumerate", v], []⟩) (fun _ R s => G s.heap ∧
      R (.ok (.ret (.ref (s.heap.push o).objs.size))) { s with heap := (s.heap.push o).push { cls := .type "enumerate", data := .fields #[.none, .bool false, .ref s.heap.objs.size, rawInt 0, .none, .none] } }) :=
  .of_wp fun prog w A R s h => by
    obtain ⟨hp, g, d, tk, os⟩ := s
    obtain ⟨h1, h⟩ := h
    have hsub := sub_enumerate
    have it : ∀ {A' : Around} {E : Value → Shared → Prop} {Q : Value → Shared → Prop}, Q (.ref hp.objs.size) ⟨hp.push o, g, d, tk, os⟩ → wpAny (model prog w) A' (pyIter v) Q E ⟨hp, g, d, tk, os⟩ :=
      fun q => B.iter prog w _ _ ⟨hp, g, d, tk, os⟩ _ h1 q
    wp_walk using it
    refine wpAny_stack_any fun st => wpAny_pure ?_
    split
    · rename_i c _ _ _ _ _
      cases (c == Value.type "enumerate")
      · wp_walk using it
        exact ⟨_, rfl, h⟩
      · wp_walk using it
        exact ⟨_, rfl, h⟩
    · wp_walk using it
      exact ⟨_, rfl, h⟩
section
variable {prog : Program} {w : World} {A : Around} {E : Value → Shared → Prop} {s : Shared}
theorem call_enum_tup {t : Addr} {items : Array Value} {Q : Value → Shared → Prop} (ht : s.heap.IsTuple t items)
    (h : ∀ h', IsEnum h' (s.heap.objs.size + 1) s.heap.objs.size 0 .none → h'.IsTupleIter s.heap.objs.size t 0 → h'.objs.size = s.heap.objs.size + 2 →
      (∀ b o, s.heap.get? b = some o → h'.get? b = some o) → Q (.ref (s.heap.objs.size + 1)) { s with heap := h' }) :
    wpAny (model prog w) A (call (.type "enumerate") [.ref t]) Q E s := by
  refine callType_new F.called_enumerate (by decide) (F.typeCall_enumerate_1 _) (F.newCall_enumerate_1 _) (fun obj => F.args_object_init_2 obj _) F.entry_enumerate_new (enum_one (begins_tuple t items)) ⟨ht, ?_⟩
  have hz : (s.heap.push { cls := .type "tuple_iterator", data := .fields #[.ref t, .int 0 0] }).objs.size = s.heap.objs.size + 1 := Heap.size_push ..
  show _ ∧ _
  rw [hz]
  have he : IsEnum ((s.heap.push { cls := .type "tuple_iterator", data := .fields #[.ref t, .int 0 0] }).push { cls := .type "enumerate", data := .fields #[.none, .bool false, .ref s.heap.objs.size, rawInt 0, .none, .none] }) (s.heap.objs.size + 1) s.heap.objs.size 0 .none := by
    have := Heap.get?_push_size (s.heap.push { cls := .type "tuple_iterator", data := .fields #[.ref t, .int 0 0] }) (o := { cls := .type "enumerate", data := .fields #[.none, .bool false, .ref s.heap.objs.size, rawInt 0, .none, .none] }) rfl
    rw [hz] at this; exact this
  exact ⟨⟨_, he, rfl⟩, h _ he ⟨_, Heap.get?_push_of_some _ (Heap.get?_push_size _ rfl), rfl, rfl⟩ (by rw [Heap.size_push, hz]) fun b o x => Heap.get?_push_of_some _ (Heap.get?_push_of_some _ x)⟩
end
/-- the tuple at a, each item in a new pair with its number -/
def IteT (K : PySem.W.Frag) (a : Addr) : It :=
  ⟨fun i H => ∃ (xs : List V) (x : V), SqT K H a xs ∧ xs[i]? = some x, fun i H v H' => ∃ T x, v = .ref T ∧ H T = none ∧ H' = upd H T (.tup [.int (i : Nat), x]) ∧ ∀ xs, SqT K H a xs → xs[i]? = some x, fun i H => ∃ xs : List V, SqT K H a xs ∧ xs.length ≤ i⟩
theorem walk_enumT {K : PySem.W.Frag} {a : Addr} {xs : List V} : Walk (IteT K a) xs.length (fun H => SqT K H a xs) (YPair (fun i => some (.int (i : Nat))) (fun i => xs[i]?)) := by
  refine ⟨fun i _ hi q => ⟨xs, xs[i], q, by simp [hi]⟩, fun _ q => ⟨xs, q, Nat.le_refl _⟩, fun i H v H' _ q y => ?_⟩
  obtain ⟨T, x, h1, h2, h3, h4⟩ := y
  exact ⟨T, .int (i : Nat), x, h1, h2, h3, rfl, h4 xs q⟩
theorem turn_enumT {P : Program} {w : World} {K : PySem.W.Frag} {elts : List Expr} {kk : Nat} {tpos : Pos} (a e it : Addr) (hai : a ≠ it) :
    Turn P w K (.Tuple elts kk tpos) (IteT K a) [e, it] e (fun i h => (∃ old, IsEnum h e it ((i : Nat) : Int) old) ∧ h.IsTupleIter it a i ∧ e ≠ it ∧ e ≠ a) where
  mem := by simp
  obj := fun i h st b hb => by
    obtain ⟨⟨old, he⟩, ⟨o, ho, hc, hd⟩, _⟩ := st
    have e' : b = e ∨ b = it := by simpa using hb
    rcases e' with z | z
    · rw [z]; exact ⟨_, he, fun v q => nomatch q⟩
    · rw [z]; exact ⟨o, ho, fun v q => by rw [hd] at q; cases q⟩
  keep := fun i h h' st k => let ⟨⟨old, he⟩, hi, hne⟩ := st; ⟨⟨old, k e (by simp) _ he⟩, hi.at fun o q => k it (by simp) o q, hne⟩
  item := by
    intro X hP hw hK hc i pins s σ H E I hf st hg
    subst hP hw hK
    obtain ⟨⟨old, he⟩, hit, hne, hea⟩ := st
    obtain ⟨xs, x, hq, hx⟩ := hg
    obtain ⟨its, rv, p, hz⟩ := I.tuple hq
    obtain ⟨u, hu, ru⟩ := rv.get hx
    have hel : e < s.heap.objs.size := Heap.lt_size he
    have hil : it < s.heap.objs.size := by obtain ⟨_, q, _⟩ := hit; exact Heap.lt_size q
    have hlt : i < its.toArray.size := by
      rw [List.size_toArray]
      exact (List.getElem?_eq_some_iff.mp hu).1
    refine wpAny_pyNext_enum_itemC (c := ((i : Nat) : Int)) (Draws.tuple (A := X.A.in1) (I.ok.hd hc) it a hai its.toArray) he ⟨hit, p⟩ hlt hne (by simp only [List.mem_cons, List.not_mem_nil, or_false, not_or]; exact ⟨hne, hea⟩) fun y h' tk hy ho hst hT hsz hk => ?_
    have ey : y = u := by
      have : its[i]? = some y := by simpa using hy
      rw [hu] at this
      exact (Option.some.inj this).symm
    subst ey
    refine ⟨_, rfl, wpAny_letOwnedTupleGo_enum (s := { s with heap := h', toks := tk + 1 }) ho fun h'' he' sb => ?_⟩
    have hT2 : h''.get? s.heap.objs.size = some { cls := .type "tuple", data := .seq #[.int i tk, y] } := (sb.2 _ (Nat.ne_of_gt hel)).trans hT
    have new : ObjOk X.prog X.w (upd H s.heap.objs.size (.tup [.int (i : Nat), x])) h'' s.heap.objs.size (.tup [.int (i : Nat), x]) :=
      ⟨by show 2 ≤ sizeLine; decide, [.int i tk, y], .cons ⟨_, rfl⟩ (.cons ru .nil), ⟨_, hT2, rfl, _, rfl⟩⟩
    have I1 : Inv X pins σ (upd H s.heap.objs.size (.tup [.int (i : Nat), x])) { s with heap := h'', toks := tk + 1 } :=
      I.turnedNew (ch := [e, it]) (fun b ob hb q => (sb.2 b (fun z => hb (by simp [z]))).trans (hk b ob (fun z => hb (by simp [z])) (fun z => hb (by simp [z])) q)) hf (Nat.le_refl _) new
    refine ⟨.ref s.heap.objs.size, _, I1, rfl, ⟨_, x, rfl, I.hok.fresh (Nat.le_refl _), rfl, fun ys hy => by rw [I.tuple_inj hy hq]; exact hx⟩, ⟨⟨y, ?_⟩, hst.1.at fun o q => (sb.2 it (Ne.symm hne)).trans q, hne, hea⟩, fun b hb => ?_⟩
    · have e1 : ((i + 1 : Nat) : Int) = (i : Int) + 1 := by omega
      rw [e1]; exact he'
    · have hb' : b < s.heap.objs.size := by
        have e' : b = e ∨ b = it := by simpa using hb
        rcases e' with z | z
        · rw [z]; exact hel
        · rw [z]; exact hil
      rw [upd_ne (Nat.ne_of_lt hb')]
      exact (hf b hb).1
  done := by
    intro X hP hw hK hc i pins s σ H E I hf st hg
    subst hP hw hK
    obtain ⟨⟨old, he⟩, hit, hne, hea⟩ := st
    obtain ⟨xs, hq, hx⟩ := hg
    obtain ⟨its, rv, p, hz⟩ := I.tuple hq
    obtain ⟨f0, f1, f2, f3, f4, f5⟩ := hf it (by simp)
    have hl := rv.length
    have hh : X.A.handled = none := I.ok.hd hc
    unfold pyNext
    refine wpAny_bind (wpAny_attempt (wpAny_callSpecial?_slot (name := Str.ofString "__next__") ⟨_, he, rfl⟩ F.slot_enumerate_next
      (wpAny_call_entry F.slot_enumerate_next ⟨_, he, rfl⟩ F.entry_enumerate_next ?_ (F.args_enumerate_next_1 _))))
    show wpAny _ _ (field (.ref e) 2 >>= _) _ _ _
    refine wpAny_bind (wpAny_field he rfl (x := .ref it) rfl ?_)
    refine wpAny_bind (wpAny_nextOf_tuple_end hh hit p (by simp; omega) fun h' x he' hx' => ?_)
    obtain ⟨o, ho, hc'⟩ := hx'
    refine wpAny_bind (wpAny_isInstance (T := "StopIteration") (b := true) ⟨o, ho, hc'⟩ isSubtype_stop ?_)
    exact wpAny_pure ⟨rfl, I.turned (t' := s.toks) (fun b o hb q => he' b o hb q) f0 f1 f3 f4 f5⟩
  self := fun A i s Q E st h => let ⟨⟨_, he⟩, _⟩ := st; wpAny_pyIter_enum he h
def iEnumT (K : PySem.W.Frag) (ta : TA) : TI := fun σ H R => ta σ H fun vs H1 => ∃ a xs, vs = [.ref a] ∧ SqT K H1 a xs ∧ R (IteT K a) H1
theorem pi_enumT {X : Cx} {e : Expr} {ta : TA} {p pos tpos : Pos} {elts : List Expr} {kk : Nat} (hg : Gl X "enumerate") (hm : X.mg "enumerate" = none) (ha : PA X [e] ta) (hs : starEach [e] X.env = [(false, eval e X.env)] := by rfl) :
    PI X (.Tuple elts kk tpos) (.Call (.Name "enumerate" p) [e] [] pos) (iEnumT X.K ta) := by
  refine ⟨fun pins s σ H R I h => ?_⟩
  refine Call_ (ld_blt I hg hm boot_enumerate (PyProof.Rows.callWith_type1 (thn (ha.run pos pins s σ H _ I h) fun us s1 ⟨vs, H1, I1, r1, q1⟩ => ?_) hs rfl))
  obtain ⟨a, xs, rfl, hq, q⟩ := q1
  obtain rfl := Vals.ref1 r1
  obtain ⟨its, rv, p', hz⟩ := I1.tuple hq
  have hal : a < s1.heap.objs.size := p'.lt
  refine call_enum_tup p' fun h' he hit hsz hk => wpAny_pyIter_enum he ?_
  have I2 : Inv X pins σ H1 { s1 with heap := h' } := I1.kept (t' := s1.toks) hk
  refine ⟨s1.heap.objs.size + 1, [s1.heap.objs.size + 1, s1.heap.objs.size], _, _, H1, rfl, I2, turn_enumT a (s1.heap.objs.size + 1) s1.heap.objs.size (Nat.ne_of_lt hal), ⟨⟨.none, he⟩, hit, Nat.succ_ne_self _, Nat.ne_of_gt (Nat.lt_succ_of_lt hal)⟩, fun b hb => ?_, q⟩
  have e' : b = s1.heap.objs.size + 1 ∨ b = s1.heap.objs.size := by simpa using hb
  have hle : s1.heap.objs.size ≤ b := by
    rcases e' with z | z
    · rw [z]; exact Nat.le_add_right _ _
    · rw [z]; exact Nat.le_refl _
  exact I1.fpOk hle (I1.hok.fresh hle)
end EpR
end
section
set_option linter.all false
set_option maxRecDepth 100000
/-! EpW0: the text by places, data in the heap, callables. -/
namespace Ep
open PySem PyProof.Rows L2 EP EpR
def top (i : Nat) : Stmt := PySem.Challenge.pw_everypiece_k27_whole_class_of_each_piece.main.body.getD i (.Pass ⟨0, 0, 0, 0⟩)
/-- a def of the top, a method -/
structure Df (K : PySem.W.Frag) (mg : Str → Option Value) (x : Str) (st : Stmt) (ps : List Str) : Prop where
  ex : ∃ (f : Addr) (fd : FuncData), Fun K x x st f fd ∧ mg x = some (.ref f) ∧ Binds K fd ps []
structure Dm (K : PySem.W.Frag) (C : Addr) (m qual : Str) (st : Stmt) (ps : List Str) : Prop where
  ex : ∃ (f : Addr) (fd : FuncData), Fun K m qual st f fd ∧ Meth K C m f ∧ Binds K fd ps []
structure Di (K : PySem.W.Frag) (mg : Str → Option Value) (C : Addr) (x qual : Str) (st : Stmt) (ps : List Str) : Prop where
  ex : ∃ (f : Addr) (fd : FuncData), Fun K "__init__" qual st f fd ∧ Mk K C f ∧ mg x = some (.ref C) ∧ Binds K fd ps []
/-- .. with what they promise -/
structure Cd (P : Program) (w : World) (K : PySem.W.Frag) (mg : Str → Option Value) (base : Heap) (k : Nat) (x : Str) (sp : Sp) : Prop where
  ex : ∃ (f : Addr) (fd : FuncData) (ps : List Str), FnOk P w K mg base CX0 k f fd ps sp ∧ mg x = some (.ref f) ∧ PySem.W.keepIn K (.ref f) = true ∧ Binds K fd ps []
structure Cm (P : Program) (w : World) (K : PySem.W.Frag) (mg : Str → Option Value) (base : Heap) (k : Nat) (C : Addr) (m : Str) (sp : Sp) : Prop where
  ex : ∃ (f : Addr) (fd : FuncData) (ps : List Str), FnOk P w K mg base CX0 k f fd ps sp ∧ Meth K C m f ∧ Binds K fd ps []
structure Ci (P : Program) (w : World) (K : PySem.W.Frag) (mg : Str → Option Value) (base : Heap) (k : Nat) (C : Addr) (x : Str) (sp : Sp) : Prop where
  ex : ∃ (f : Addr) (fd : FuncData) (ps : List Str), FnOk P w K mg base CX0 k f fd ps sp ∧ Mk K C f ∧ mg x = some (.ref C) ∧ Binds K fd ps []
section
variable {P : Program} {w : World} {K : PySem.W.Frag} {mg : Str → Option Value} {base : Heap}
theorem Df.ok {x : Str} {st : Stmt} {N ps : List Str} {k : Nat} {sp : Sp} (D : Df K mg x st ps) (S : FnScope N ps (defScope st)) (len : ∀ vs H Q E, sp vs H Q E → vs.length = ps.length)
    (body : ∀ (f : Addr) (cdv : Value) (A : Around) (outer : List Env) (s : Shared) (H : Hp) (vs : List V) (Q : VK) (E : XK), Room k (A.deeper (envOfC x (defScope st) s.heap.objs.size f cdv)) → sp vs H Q E →
      ∃ t, PSs (cxOf CX0 P w K mg base N x (defScope st) f cdv A outer s H E).nox (defBody st) t ∧ t { nx := fun _ H' => Q .non H', rt := Q } (start N vs) H) : Cd P w K mg base (k + 1) x sp := by
  obtain ⟨f, fd, F, hm, b⟩ := D.ex
  exact ⟨f, fd, ps, F.ok S len (body f), hm, F.kp, b⟩
theorem Dm.ok {C : Addr} {m q : Str} {st : Stmt} {N ps : List Str} {k : Nat} {sp : Sp} (D : Dm K C m q st ps) (S : FnScope N ps (defScope st)) (len : ∀ vs H Q E, sp vs H Q E → vs.length = ps.length)
    (body : ∀ (f : Addr) (cdv : Value) (A : Around) (outer : List Env) (s : Shared) (H : Hp) (vs : List V) (Q : VK) (E : XK), Room k (A.deeper (envOfC q (defScope st) s.heap.objs.size f cdv)) → sp vs H Q E →
      ∃ t, PSs (cxOf CX0 P w K mg base N q (defScope st) f cdv A outer s H E).nox (defBody st) t ∧ t { nx := fun _ H' => Q .non H', rt := Q } (start N vs) H) : Cm P w K mg base (k + 1) C m sp := by
  obtain ⟨f, fd, F, hm, b⟩ := D.ex
  exact ⟨f, fd, ps, F.ok S len (body f), hm, b⟩
theorem Di.ok {C : Addr} {x q : Str} {st : Stmt} {N ps : List Str} {k : Nat} {sp : Sp} (D : Di K mg C x q st ps) (S : FnScope N ps (defScope st)) (len : ∀ vs H Q E, sp vs H Q E → vs.length = ps.length)
    (body : ∀ (f : Addr) (cdv : Value) (A : Around) (outer : List Env) (s : Shared) (H : Hp) (vs : List V) (Q : VK) (E : XK), Room k (A.deeper (envOfC q (defScope st) s.heap.objs.size f cdv)) → sp vs H Q E →
      ∃ t, PSs (cxOf CX0 P w K mg base N q (defScope st) f cdv A outer s H E).nox (defBody st) t ∧ t { nx := fun _ H' => Q .non H', rt := Q } (start N vs) H) : Ci P w K mg base (k + 1) C x sp := by
  obtain ⟨f, fd, F, hm, hx, b⟩ := D.ex
  exact ⟨f, fd, ps, F.ok S len (body f), hm, hx, b⟩
end
section
variable {X : Cx} {k j : Nat} {C : Addr} {x m : Str} {sp : Sp} {p pos apos : Pos} {e o : Expr} {es : List Expr} {ta : TE} {t : TA}
theorem pe_cd (c : Cd X.prog X.w X.K X.mg X.base k x sp) (hr : Room j X.A) (hk : k ≤ j) (hg : Gl X x) (ha : PA X (e :: es) t)
    (hdb : (x == ("__debug__" : Str)) = false := by decide) (he : starEach (e :: es) X.env = (false, eval e X.env) :: starEach es X.env := by rfl) (hpl : (backTo pos (starEach es X.env)).any (·.1) = false := by rfl) :
    PE X (.Call (.Name x p) (e :: es) [] pos) (tCall sp [] E0 t) := by
  obtain ⟨f, fd, ps, F, hm, kp, b⟩ := c.ex
  exact pe_call F (hr.mono hk) hg hm kp b .nil pass0 ha hdb he hpl
theorem pe_ci (c : Ci X.prog X.w X.K X.mg X.base k C x sp) (hr : Room j X.A) (hk : k + 1 ≤ j) (hg : Gl X x) (ha : PA X (e :: es) t)
    (hdb : (x == ("__debug__" : Str)) = false := by decide) (he : starEach (e :: es) X.env = (false, eval e X.env) :: starEach es X.env := by rfl) (hpl : (backTo pos (starEach es X.env)).any (·.1) = false := by rfl) :
    PE X (.Call (.Name x p) (e :: es) [] pos) (tMake C sp [] E0 t) := by
  obtain ⟨f, fd, ps, F, M, hm, b⟩ := c.ex
  exact pe_make M F (hr.mono hk) hg hm b .nil pass0 ha hdb he hpl
theorem pe_cm {pl : Sem Bool} (c : Cm X.prog X.w X.K X.mg X.base k C m sp) (hc : Cls X.K C) (hr : Room j X.A) (hk : k ≤ j) (he : PE X o ta) (ha : PA X (e :: es) t)
    (hst : starEach (e :: es) X.env = (false, eval e X.env) :: starEach es X.env := by rfl) (hpl : (backTo pos (starEach es X.env)).any (·.1) = false := by rfl)
    (ht : eval (.Call (.Attribute o m apos) (e :: es) [] pos) X.env = (do
      let ov ← eval o X.env
      standAt apos.atName
      let (f, first) ← holding [ov] (getMethod ov m pl)
      callWith pos f first (backTo pos (starEach (e :: es) X.env)) (backToKw pos (keywordEach [] X.env))) := by rfl) :
    PE X (.Call (.Attribute o m apos) (e :: es) [] pos) (tMeth C m sp [] E0 ta t) := by
  obtain ⟨f, fd, ps, F, hm, b⟩ := c.ex
  exact pe_meth (pl := pl) he hc hm F (hr.mono hk) b .nil pass0 ha hst hpl ht
theorem pe_cm0 {pl : Sem Bool} (c : Cm X.prog X.w X.K X.mg X.base k C m sp) (hc : Cls X.K C) (hr : Room j X.A) (hk : k ≤ j) (he : PE X o ta)
    (ht : eval (.Call (.Attribute o m apos) [] [] pos) X.env = (do
      let ov ← eval o X.env
      standAt apos.atName
      let (f, first) ← holding [ov] (getMethod ov m pl)
      callWith pos f first (backTo pos (starEach [] X.env)) (backToKw pos (keywordEach [] X.env))) := by rfl) :
    PE X (.Call (.Attribute o m apos) [] [] pos) (tMeth C m sp [] E0 ta tNil) := by
  obtain ⟨f, fd, ps, F, hm, b⟩ := c.ex
  exact pe_meth0 (pl := pl) he hc hm F (hr.mono hk) b .nil pass0 ht
/-- len(x) -/
theorem pe_len (hm : X.mg "len" = none) (he : PE X e ta) (hg : Gl X "len" := by rfl) (hs : starEach [e] X.env = (false, eval e X.env) :: starEach [] X.env := by rfl) : PE X (.Call (.Name "len" p) [e] [] pos) (tCB (fun xs H Q => ∃ x n, xs = [x] ∧ LenV X.K x H n ∧ Q (.int n) H) (tCons ta tNil)) :=
  pe_callB call_len hg hm PySem.boot_len (pa_cons he pa_nil hs) (by decide) (by decide) hs rfl
end
/-! ### texts -/
section
variable {X : Cx} {p pos : Pos} {e : Expr} {ta : TE}
theorem pe_lens (hm : X.mg "len" = none) (he : PE X e ta) (hg : Gl X "len" := by rfl) (hs : starEach [e] X.env = (false, eval e X.env) :: starEach [] X.env := by rfl) : PE X (.Call (.Name "len" p) [e] [] pos) (tCB (fun xs H Q => ∃ z, xs = [.str z] ∧ z.length ≤ sizeLine ∧ Q (.int z.length) H) (tCons ta tNil)) :=
  pe_callB call_len_str hg hm PySem.boot_len (pa_cons he pa_nil hs) (by decide) (by decide) hs rfl
end
def S (z : Wd) : Str := ⟨z.toArray⟩
abbrev VS (z : Wd) : V := .str (S z)
theorem S_tl (z : Wd) : (S z).cps.toList = z := rfl
theorem S_len (z : Wd) : (S z).length = z.length := by simp [S, Str.length]
theorem S_size (z : Wd) : (S z).cps.size = z.length := by simp [S]
theorem S_inj {a b : Wd} (h : S a = S b) : a = b := by
  have := congrArg (fun x : Str => x.cps.toList) h
  exact this
theorem S_cps (x : Str) : S x.cps.toList = x := by cases x; rfl
theorem VS_inj {a b : Wd} (h : VS a = VS b) : a = b := by
  injection h with h
  exact S_inj h
theorem VS_dec (a b : Wd) : decide (VS a = VS b) = decide (a = b) := by
  rw [decide_eq_decide]
  exact ⟨VS_inj, fun h => by rw [h]⟩
theorem S_app (a b : Wd) : S a ++ S b = S (a ++ b) := by
  show (⟨(S a).cps ++ (S b).cps⟩ : Str) = _
  simp [S]
theorem cut_both (z : Wd) (i j : Nat) : cutS (S z) (some (i : Int)) (some (j : Int)) = S ((z.take j).drop i) := by
  unfold cutS
  rw [HT.sIx_nat, HT.sIx_nat, S_tl, S_len]
  refine congrArg S ?_
  rw [List.drop_take]
  apply List.ext_getElem?
  intro n
  simp only [List.getElem?_take, List.getElem?_drop]
  by_cases h : i ≤ z.length
  · rw [Nat.min_eq_left h]
    by_cases h1 : n < j - i
    · rw [if_pos h1]
      by_cases h2 : n < min j z.length - i
      · rw [if_pos h2]
      · rw [if_neg h2, List.getElem?_eq_none (by omega)]
    · rw [if_neg h1, if_neg (by omega)]
  · rw [if_neg (by omega)]
    by_cases h1 : n < j - i
    · rw [if_pos h1, List.getElem?_eq_none (by omega)]
    · rw [if_neg h1]
theorem cut_from (z : Wd) (i : Nat) : cutS (S z) (some (i : Int)) none = S (z.drop i) := by
  unfold cutS
  rw [HT.sIx_nat, HT.sIx_none, S_tl, S_len]
  refine congrArg S ?_
  rw [List.take_of_length_le (by rw [List.length_drop]; omega)]
  by_cases h : i ≤ z.length
  · rw [Nat.min_eq_left h]
  · rw [Nat.min_eq_right (by omega), List.drop_eq_nil_of_le (Nat.le_refl _), List.drop_eq_nil_of_le (by omega)]
theorem cut_to (z : Wd) (j : Nat) : cutS (S z) none (some (j : Int)) = S (z.take j) := by
  unfold cutS
  rw [HT.sIx_nat, HT.sIx_none, S_tl, S_len]
  refine congrArg S ?_
  rw [List.drop_zero, Nat.sub_zero]
  by_cases h : j ≤ z.length
  · rw [Nat.min_eq_left h]
  · rw [Nat.min_eq_right (by omega), List.take_of_length_le (Nat.le_refl _), List.take_of_length_le (by omega)]
theorem lit_empty : ("" : Str) = S [] := by decide +kernel
/-- texts of a library -/
structure Good (ts : List Wd) : Prop where
  few : ts.length ≤ 8
  sum : (ts.map List.length).sum ≤ 2000
  sgn : ∀ t ∈ ts, ∀ c ∈ t, 32 ≤ c ∧ c ≤ 126
theorem le_sum {l : List Nat} {n : Nat} (h : n ∈ l) : n ≤ l.sum := by
  induction l with
  | nil => cases h
  | cons a l ih =>
    rw [List.sum_cons]
    rcases List.mem_cons.mp h with rfl | h
    · omega
    · have := ih h; omega
theorem Good.text {ts : List Wd} (G : Good ts) {t : Wd} (h : t ∈ ts) : t.length ≤ 2000 := Nat.le_trans (le_sum (List.mem_map_of_mem h)) G.sum
theorem Good.tx {ts : List Wd} (G : Good ts) (i : Nat) : (tx ts i).length ≤ 2000 := by
  unfold EP.tx
  rw [List.getD_eq_getElem?_getD]
  cases e : ts[i]? with
  | none => exact Nat.zero_le _
  | some t => exact G.text (List.mem_of_getElem? e)
theorem sum_all {ts : List Wd} : (allP ts).length = (ts.map List.length).sum := by
  unfold allP
  rw [List.length_flatMap]
  congr 1
  apply List.ext_getElem?
  intro i
  rw [List.getElem?_map, List.getElem?_map]
  by_cases h : i < ts.length
  · rw [List.getElem?_range h, List.getElem?_eq_getElem h]
    show some (rowP ts i).length = some ts[i].length
    unfold rowP
    rw [List.length_map, List.length_range, tx_of (List.getElem?_eq_getElem h)]
  · rw [List.getElem?_eq_none (by rw [List.length_range]; omega), List.getElem?_eq_none (by omega)]
    rfl
theorem Good.all {ts : List Wd} (G : Good ts) : (allP ts).length ≤ 2000 := by rw [sum_all]; exact G.sum
theorem line2 {n : Nat} (h : n ≤ 100000) : n ≤ sizeLine := Nat.le_trans h (by decide)
theorem line1 {n : Nat} (h : n ≤ 100000) : n < sizeLine := Nat.lt_of_le_of_lt h (by decide)
theorem at_map {α β : Type} {f : α → β} {l : List α} {i : Nat} {z : β} (h : (l.map f)[i]? = some z) : ∃ x, l[i]? = some x ∧ f x = z := by
  rw [List.getElem?_map] at h
  cases e : l[i]? with
  | none => rw [e] at h; cases h
  | some x => rw [e] at h; exact ⟨x, rfl, Option.some.inj h⟩
theorem sum_int (ts : List Wd) : (ts.map fun x => (x.length : Int)).sum = (((ts.map List.length).sum : Nat) : Int) := by
  induction ts with
  | nil => rfl
  | cons a r ih =>
    rw [List.map_cons, List.sum_cons, List.map_cons, List.sum_cons, ih]
    omega
/-! ### heaps -/
theorem put {H H' : Hp} {p : Addr} {o : HO} (s : Same H H') (n : H p = none) : Same H (upd H' p o) := fun b u e => by
  rw [upd_ne (ne_of_none e n)]
  exact s b u e
theorem upd_eq {H : Hp} {a b : Addr} {o u : HO} (h : H b = some u) (n : H a = none) : upd H a o b = some u := by
  rw [upd_ne (ne_of_none h n)]
  exact h
theorem Same.tup {K : PySem.W.Frag} {H H' : Hp} {a : Addr} {xs : List V} (e : Same H H') (h : SqT K H a xs) : SqT K H' a xs := by
  rcases h with (h | ⟨o, h⟩) | h
  · exact .inl (.inl (e _ _ h))
  · exact .inl (.inr ⟨o, e _ _ h⟩)
  · exact .inr h
theorem Same.isNone {H H' : Hp} (e : Same H H') {l : Addr} (h : H' l = none) : H l = none := e.free h
/-- places in the heap -/
def PlO (p : Pl) : HO := .tup [.int (p.1 : Nat), .int (p.2 : Nat)]
def ZL (H : Hp) (l : Addr) (zs : List (Addr × Pl)) : Prop := H l = some (.lst (zs.map fun z => V.ref z.1)) ∧ ∀ z ∈ zs, H z.1 = some (PlO z.2)
def PL (H : Hp) (l : Addr) (ps : List Pl) : Prop := ∃ zs, ZL H l zs ∧ zs.map Prod.snd = ps
theorem ZL.same {H H' : Hp} {l : Addr} {zs : List (Addr × Pl)} (e : Same H H') (h : ZL H l zs) : ZL H' l zs := ⟨e _ _ h.1, fun z hz => e _ _ (h.2 z hz)⟩
theorem PL.same {H H' : Hp} {l : Addr} {ps : List Pl} (e : Same H H') (h : PL H l ps) : PL H' l ps := let ⟨zs, a, b⟩ := h; ⟨zs, a.same e, b⟩
/-- texts in a tuple -/
def TxAt (H : Hp) (t : Addr) (ts : List Wd) : Prop := H t = some (.tup (ts.map VS))
/-- a library -/
def LibAt (CL : Addr) (H : Hp) (b : Addr) (ts : List Wd) : Prop := ∃ t dx, H b = some (.ins CL dx (putF "texts" (.ref t) [])) ∧ TxAt H t ts
theorem LibAt.same {CL : Addr} {H H' : Hp} {b : Addr} {ts : List Wd} (e : Same H H') (h : LibAt CL H b ts) : LibAt CL H' b ts := let ⟨t, dx, a, b⟩ := h; ⟨t, dx, e _ _ a, e _ _ b⟩
theorem lk_one {f : Str} {v : V} : (putF f v []).lookup f = some v := by rw [lookup_putF, if_pos rfl]
theorem lk_not {f g : Str} {v : V} (h : ¬ g = f) : (putF f v []).lookup g = none := by rw [lookup_putF, if_neg h]; rfl
/-- what the top has -/
structure Txt (K : PySem.W.Frag) (mg : Str → Option Value) (CL CM CC : Addr) : Prop where
  len : mg "len" = none
  isinstance : mg "isinstance" = none
  int : mg "int" = none
  bool : mg "bool" = none
  str : mg "str" = none
  tuple : mg "tuple" = none
  list : mg "list" = none
  all : mg "all" = none
  sum : mg "sum" = none
  max : mg "max" = none
  min : mg "min" = none
  abs : mg "abs" = none
  enumerate : mg "enumerate" = none
  range : mg "range" = none
  zip : mg "zip" = none
  sorted : mg "sorted" = none
  set : mg "set" = none
  first : ∃ u, mg "FIRST_SIGN" = some u ∧ RelV (.str " ") u
  last : ∃ u, mg "LAST_SIGN" = some u ∧ RelV (.str "~") u
  texts : ∃ u, mg "MOST_TEXTS" = some u ∧ RelV (.int 8) u
  signs : ∃ u, mg "MOST_SIGNS" = some u ∧ RelV (.int 2000) u
  cL : Cls K CL
  cM : Cls K CM
  cC : Cls K CC
  nT : NoAttr K CL "texts"
  nS : NoAttr K CM "source"
  nR : NoAttr K CM "ranked"
  nC : NoAttr K CM "commons"
  nM : NoAttr K CC "maker"
  nL : NoAttr K CC "longest"
  nN : NoAttr K CC "numbers"
end Ep
end
section
set_option linter.all false
set_option maxRecDepth 100000
/-! EpW1: the walks of checks and libraries. -/
namespace Ep
open PySem PyProof.Rows L2 EP EpR
/-! ### promises -/
def spIsInt : Sp := fun vs H Q _ => ∃ i : Int, vs = [.int i] ∧ Q (.bl true) H
def spWithin : Sp := fun vs H Q _ => ∃ i a b : Int, vs = [.int i, .int a, .int b] ∧ Q (.bl (decide (a ≤ i ∧ i ≤ b))) H
def spBelow : Sp := fun vs H Q _ => ∃ i n : Int, vs = [.int i, .int n] ∧ 0 ≤ i ∧ i < n ∧ Q (.bl true) H
def spSized : Sp := fun vs H Q _ => ∃ (t : Addr) (xs : List V) (a b : Int), vs = [.ref t, .int a, .int b] ∧ H t = some (.tup xs) ∧ a ≤ xs.length ∧ (xs.length : Int) ≤ b ∧ Q (.bl true) H
/-- signs that may stand -/
def Sgn (z : Wd) : Prop := ∀ c ∈ z, 32 ≤ c ∧ c ≤ 126
def spSigns : Sp := fun vs H Q _ => ∃ z : Wd, vs = [VS z] ∧ Sgn z ∧ z.length ≤ 100000 ∧ ∀ H', Same H H' → Q (.bl true) H'
def spWord : Sp := fun vs H Q _ => ∃ z : Wd, vs = [VS z] ∧ Sgn z ∧ z.length ≤ 100000 ∧ z ≠ [] ∧ ∀ H', Same H H' → Q (.bl true) H'
def spCheck : Sp := fun vs H Q _ => ∃ z : Wd, vs = [VS z] ∧ Sgn z ∧ z.length ≤ 100000 ∧ z ≠ [] ∧ ∀ H', Same H H' → Q .non H'
def spWrong : Sp := fun vs H Q _ => ∃ (t : Addr) (ts : List Wd), vs = [.ref t] ∧ TxAt H t ts ∧ Good ts ∧ ∀ H', Same H H' → Q .non H'
def spLibInit (CL : Addr) : Sp := fun vs H Q _ => ∃ (p t dx : Addr) (ts : List Wd), vs = [.ref p, .ref t] ∧ H p = some (.ins CL dx []) ∧ TxAt H t ts ∧ Good ts ∧
  ∀ H', (∀ b o, H b = some o → b ≠ p → H' b = some o) → H' p = some (.ins CL dx (putF "texts" (.ref t) [])) → Q .non H'
theorem one_lt {a b : Nat} (h : b ≤ a) : ¬ ([a] : List Nat) < [b] := fun z => by
  rcases List.cons_lt_cons_iff.mp z with z | z
  · omega
  · exact absurd z.2 (List.not_lt_nil [])
section
variable {P : Program} {w : World} {K : PySem.W.Frag} {mg : Str → Option Value} {base : Heap} {CL CM CC : Addr}
theorem sc10 : FnScope ["thing"] ["thing"] (defScope (top 10)) := ⟨rfl, rfl, rfl, by decide +kernel, rfl, by decide +kernel, by decide +kernel⟩
theorem ok_isint (T : Txt K mg CL CM CC) (D : Df K mg "is_integer" (top 10) ["thing"]) : Cd P w K mg base 1 "is_integer" spIsInt := by
  refine D.ok sc10 (fun vs H Q E h => ?_) (fun f cdv A outer s H vs Q E hr h => ?_)
  · obtain ⟨i, rfl, _⟩ := h
    rfl
  · obtain ⟨i, rfl, k⟩ := h
    refine ⟨_, pss_one (ps_ret (pe_and (pe_callB call_isi (by rfl) T.isinstance (by decide +kernel) (pa_cons (pv 0) (pa_cons (pe_bltn (v := .ty "int") (by rfl) T.int (by decide +kernel) rfl) pa_nil)))
      (pe_one (pe_not (pe_callB call_isi (by rfl) T.isinstance (by decide +kernel) (pa_cons (pv 0) (pa_cons (pe_bltn (v := .ty "bool") (by rfl) T.bool (by decide +kernel) rfl) pa_nil))))))), ?_⟩
    refine ⟨_, rfl, _, _, _, _, true, rfl, .ty "int", .base (.int i), kit_ty (by decide +kernel), _, rfl, iteT ?_⟩
    exact ⟨_, rfl, _, _, _, _, false, rfl, .ty "bool", .base (.int i), kit_ty (by decide +kernel), _, rfl, k⟩
theorem sc11 : FnScope ["thing", "least", "most"] ["thing", "least", "most"] (defScope (top 11)) := ⟨rfl, rfl, rfl, by decide +kernel, rfl, by decide +kernel, by decide +kernel⟩
theorem ok_within (T : Txt K mg CL CM CC) (D : Df K mg "is_within" (top 11) ["thing", "least", "most"]) (G : Cd P w K mg base 1 "is_integer" spIsInt) : Cd P w K mg base 2 "is_within" spWithin := by
  refine D.ok sc11 (fun vs H Q E h => ?_) (fun f cdv A outer s H vs Q E hr h => ?_)
  · obtain ⟨i, a, b, rfl, _⟩ := h
    rfl
  · obtain ⟨i, a, b, rfl, k⟩ := h
    refine ⟨_, pss_one (ps_ret (pe_and (pe_cd G hr (by decide) (by rfl) (pa_cons (pv 0) pa_nil)) (pe_one (pe_chain op_le op_le (pv 1) (pv 0) (pv 2))))), ?_⟩
    refine ⟨_, rfl, i, rfl, _, rfl, iteT ?_⟩
    refine ⟨_, rfl, _, rfl, _, _, rfl, rfl, _, rfl, ?_⟩
    by_cases h1 : a ≤ i
    · rw [decide_eq_true h1]
      refine iteT ⟨_, rfl, _, _, rfl, rfl, ?_⟩
      have e : decide (a ≤ i ∧ i ≤ b) = decide (i ≤ b) := by simp [h1]
      rw [e] at k
      exact k
    · rw [decide_eq_false h1]
      refine iteF ?_
      have e : decide (a ≤ i ∧ i ≤ b) = false := by simp [h1]
      rw [e] at k
      exact k
theorem sc12 : FnScope ["thing", "many"] ["thing", "many"] (defScope (top 12)) := ⟨rfl, rfl, rfl, by decide +kernel, rfl, by decide +kernel, by decide +kernel⟩
theorem ok_below (T : Txt K mg CL CM CC) (D : Df K mg "is_below" (top 12) ["thing", "many"]) (G : Cd P w K mg base 2 "is_within" spWithin) : Cd P w K mg base 3 "is_below" spBelow := by
  refine D.ok sc12 (fun vs H Q E h => ?_) (fun f cdv A outer s H vs Q E hr h => ?_)
  · obtain ⟨i, n, rfl, _⟩ := h
    rfl
  · obtain ⟨i, n, rfl, h0, h1, k⟩ := h
    refine ⟨_, pss_one (ps_ret (pe_cd G hr (by decide) (by rfl) (pa_cons (pv 0) (pa_cons pe_int (pa_cons (pe_op op_sub (pv 1) pe_int) pa_nil))))), ?_⟩
    refine ⟨_, rfl, _, rfl, _, _, rfl, rfl, i, 0, n - 1, rfl, ?_⟩
    have e : decide (0 ≤ i ∧ i ≤ n - 1) = true := decide_eq_true ⟨h0, by omega⟩
    rw [e]
    exact k
theorem sc13 : FnScope ["thing", "least", "most"] ["thing", "least", "most"] (defScope (top 13)) := ⟨rfl, rfl, rfl, by decide +kernel, rfl, by decide +kernel, by decide +kernel⟩
theorem ok_sized (T : Txt K mg CL CM CC) (D : Df K mg "is_sized" (top 13) ["thing", "least", "most"]) : Cd P w K mg base 1 "is_sized" spSized := by
  refine D.ok sc13 (fun vs H Q E h => ?_) (fun f cdv A outer s H vs Q E hr h => ?_)
  · obtain ⟨t, xs, a, b, rfl, _⟩ := h
    rfl
  · obtain ⟨t, xs, a, b, rfl, ht, ha, hb, k⟩ := h
    refine ⟨_, pss_one (ps_ret (pe_and (pe_callB call_isi (by rfl) T.isinstance (by decide +kernel) (pa_cons (pv 0) (pa_cons (pe_bltn (v := .ty "tuple") (by rfl) T.tuple (by decide +kernel) rfl) pa_nil)))
      (pe_one (pe_chain op_le op_le (pv 1) (pe_len T.len (pv 0)) (pv 2))))), ?_⟩
    refine ⟨_, rfl, _, _, _, _, true, rfl, .ty "tuple", .base (.tup ht), kit_ty (by decide +kernel), _, rfl, iteT ?_⟩
    refine ⟨_, rfl, _, rfl, _, _, rfl, .inr ⟨_, SqT.of ht, rfl⟩, _, _, rfl, rfl, _, rfl, ?_⟩
    rw [decide_eq_true ha]
    refine iteT ?_
    refine ⟨_, rfl, _, _, rfl, rfl, ?_⟩
    show Q (.bl (decide ((xs.length : Int) ≤ b))) H
    rw [decide_eq_true hb]
    exact k
theorem sc14 : FnScope ["thing", "sign"] ["thing"] (defScope (top 14)) := ⟨rfl, rfl, rfl, by decide +kernel, rfl, by decide +kernel, by decide +kernel⟩
theorem ok_signs (T : Txt K mg CL CM CC) (D : Df K mg "are_signs" (top 14) ["thing"]) : Cd P w K mg base 1 "are_signs" spSigns := by
  refine D.ok sc14 (fun vs H Q E h => ?_) (fun f cdv A outer s H vs Q E hr h => ?_)
  · obtain ⟨z, rfl, _⟩ := h
    rfl
  · obtain ⟨z, rfl, hs, hz, k⟩ := h
    obtain ⟨u1, g1, r1⟩ := T.first
    obtain ⟨u2, g2, r2⟩ := T.last
    refine ⟨_, pss_one (ps_ret (pe_and (pe_callB call_isi (by rfl) T.isinstance (by decide +kernel) (pa_cons (pv 0) (pa_cons (pe_bltn (v := .ty "str") (by rfl) T.str (by decide +kernel) rfl) pa_nil)))
      (pe_one (pe_callB (cr_all rfl) (by rfl) T.all (by decide +kernel) (pa_cons (pe_lc (own := [("sign", 1)]) (g := gName 1) (tt := tYes) rfl sc14.nd (pi_str (pv 0)) (blkOk_by (N := ["thing", "sign"]) (sc := defScope (top 14)) (by decide +kernel))
        (fun _ _ _ _ _ => pg_name (i := 1) sc14.nd rfl (Or.inl rfl)) (fun _ _ _ _ _ => pts_nil) (fun _ _ _ _ _ => pe_chain op_le_str op_le_str (pe_glob (by rfl) g1 r1) (pv 1) (pe_glob (by rfl) g2 r2))) pa_nil))))), ?_⟩
    refine ⟨_, rfl, _, _, _, _, true, rfl, .ty "str", .base (.str _), kit_ty (by decide +kernel), _, rfl, iteT ?_⟩
    refine ⟨_, rfl, _, rfl, fun L hL => lc_it walk_str (fun i H' => Same H H' ∧ H L = none ∧ H' L = some (.lst ((List.replicate i true).map V.bl))) ⟨put (Same.refl H) hL, hL, upd_same⟩ (fun _ _ _ _ => trivial) ?_ ?_⟩
    · rintro i x H1 H2 hi ⟨s1, n1, e1⟩ ⟨rfl, c, hc, rfl⟩
      have hc' : c ∈ z := by
        have h2 : (S z).cps.toList[i]? = some c := by rw [Array.getElem?_toList]; exact hc
        exact List.mem_of_getElem? h2
      obtain ⟨l1, l2⟩ := hs c hc'
      refine ⟨rfl, ?_⟩
      refine ⟨_, rfl, _, _, rfl, rfl, _, rfl, ?_⟩
      have q1 : (!decide (([c] : List Nat) < (" " : Str).cps.toList)) = true := by
        have : (" " : Str).cps.toList = [32] := by decide +kernel
        rw [this, decide_eq_false (one_lt (by omega))]
        rfl
      have q2 : (!decide ((("~" : Str).cps.toList) < ([c] : List Nat))) = true := by
        have : ("~" : Str).cps.toList = [126] := by decide +kernel
        rw [this, decide_eq_false (one_lt (by omega))]
        rfl
      show if (!decide (([c] : List Nat) < (" " : Str).cps.toList)) = true then _ else _
      rw [q1]
      refine iteT ?_
      refine ⟨_, _, rfl, rfl, _, e1, ?_, put s1 n1, n1, ?_⟩
      · rw [List.length_map, List.length_replicate]
        rw [S_size] at hi
        exact line1 (by omega)
      · rw [upd_same]
        show some (HO.lst (_ ++ [V.bl (!decide ((("~" : Str).cps.toList) < ([c] : List Nat)))])) = _
        rw [q2, List.replicate_succ', List.map_append]
        rfl
    · rintro H1 ⟨s1, n1, e1⟩
      refine ⟨_, _, rfl, SqL.of e1, ?_⟩
      have : (List.replicate (S z).cps.size true).all id = true := by simp
      rw [this]
      exact k _ s1
theorem sc15 : FnScope ["thing"] ["thing"] (defScope (top 15)) := ⟨rfl, rfl, rfl, by decide +kernel, rfl, by decide +kernel, by decide +kernel⟩
theorem ok_word (T : Txt K mg CL CM CC) (D : Df K mg "is_word" (top 15) ["thing"]) (G : Cd P w K mg base 1 "are_signs" spSigns) : Cd P w K mg base 2 "is_word" spWord := by
  refine D.ok sc15 (fun vs H Q E h => ?_) (fun f cdv A outer s H vs Q E hr h => ?_)
  · obtain ⟨z, rfl, _⟩ := h
    rfl
  · obtain ⟨z, rfl, hs, hz, hn, k⟩ := h
    refine ⟨_, pss_one (ps_ret (pe_and (pe_cd G hr (by decide) (by rfl) (pa_cons (pv 0) pa_nil)) (pe_one (pe_cmpR op_gt (pe_len T.len (pv 0)) pe_int (nomark _))))), ?_⟩
    refine ⟨_, rfl, z, rfl, hs, hz, fun H1 s1 => ⟨_, rfl, iteT ?_⟩⟩
    refine ⟨_, rfl, _, _, rfl, ⟨by rw [S_len]; exact line2 hz, rfl⟩, _, _, rfl, rfl, ?_⟩
    show Q (.bl (decide ((0 : Int) < ((S z).length : Int)))) H1
    have hl : 0 < z.length := List.length_pos_iff.mpr hn
    rw [S_len, decide_eq_true (by omega)]
    exact k _ s1
theorem sc16 : FnScope ["thing"] ["thing"] (defScope (top 16)) := ⟨rfl, rfl, rfl, by decide +kernel, rfl, by decide +kernel, by decide +kernel⟩
theorem ok_check (T : Txt K mg CL CM CC) (D : Df K mg "check_word" (top 16) ["thing"]) (G : Cd P w K mg base 2 "is_word" spWord) : Cd P w K mg base 3 "check_word" spCheck := by
  refine D.ok sc16 (fun vs H Q E h => ?_) (fun f cdv A outer s H vs Q E hr h => ?_)
  · obtain ⟨z, rfl, _⟩ := h
    rfl
  · obtain ⟨z, rfl, hs, hz, hn, k⟩ := h
    refine ⟨_, pss_one (ps_if (pt_not (pt_val (pe_cd G hr (by decide) (by rfl) (pa_cons (pv 0) pa_nil)))) (pss_one ps_never) pss_nil), ?_⟩
    refine ⟨_, rfl, z, rfl, hs, hz, hn, fun H1 s1 => ⟨_, rfl, iteF ?_⟩⟩
    exact k _ s1
theorem sc19 : FnScope ["thing", "number", "text"] ["thing"] (defScope (top 19)) := ⟨rfl, rfl, rfl, by decide +kernel, rfl, by decide +kernel, by decide +kernel⟩
theorem ok_wrong (T : Txt K mg CL CM CC) (D : Df K mg "first_wrong" (top 19) ["thing"]) (G : Cd P w K mg base 1 "are_signs" spSigns) (G2 : Cd P w K mg base 1 "is_sized" spSized) : Cd P w K mg base 2 "first_wrong" spWrong := by
  refine D.ok sc19 (fun vs H Q E h => ?_) (fun f cdv A outer s H vs Q E hr h => ?_)
  · obtain ⟨t, ts, rfl, _⟩ := h
    rfl
  · obtain ⟨t, ts, rfl, ht, hg, k⟩ := h
    obtain ⟨u1, g1, r1⟩ := T.texts
    obtain ⟨u2, g2, r2⟩ := T.signs
    refine ⟨_, pss_cons (ps_if (pt_not (pt_val (pe_cd G2 hr (by decide) (by rfl) (pa_cons (pv 0) (pa_cons pe_int (pa_cons (pe_glob (by rfl) g1 r1) pa_nil)))))) (pss_one ps_never) pss_nil)
      (pss_cons (ps_for PassesOwn.never rfl (pi_enumT (by rfl) T.enumerate (pa_cons (pv 0) pa_nil)) (pg_tup rfl (pgs_cons (pg_name (i := 1) sc19.nd rfl (Or.inl rfl)) (pgs_cons (pg_name (i := 2) sc19.nd rfl (Or.inl rfl)) pgs_nil)))
        (pss_one (ps_if (pt_not (pt_val (pe_cd G hr (by decide) (by rfl) (pa_cons (pv 2) pa_nil)))) (pss_one ps_never) pss_nil)))
      (pss_one (ps_ret (pe_ifExp (pt_cmpR op_gt (pe_callB (cr_sum rfl) (by rfl) T.sum (by decide +kernel) (pa_cons (pe_lc (own := [("text", 2)]) (g := gName 2) (tt := tYes) rfl sc19.nd (pi_tup (pv 0)) (blkOk_by (N := ["thing", "number", "text"]) (sc := defScope (top 19)) (by decide +kernel))
        (fun _ _ _ _ _ => pg_name (i := 2) sc19.nd rfl (Or.inl rfl)) (fun _ _ _ _ _ => pts_nil) (fun _ _ _ _ _ => pe_lens T.len (pv 2))) pa_nil)) (pe_glob (by rfl) g2 r2) (nomark _)) pe_str pe_non)))), ?_⟩
    refine ⟨_, rfl, t, _, _, _, rfl, ht, Int.natCast_nonneg _, ?_, _, rfl, iteF ?_⟩
    · rw [List.length_map]
      have := hg.few
      omega
    refine ⟨_, rfl, t, _, rfl, SqT.of ht, for_it (walk_enumT (xs := ts.map VS)) (fun i σ H' => ∃ v1 v2, σ = [some (.ref t), v1, v2] ∧ Same H H') ⟨none, none, rfl, Same.refl H⟩ (fun i σ H' _ ⟨_, _, _, s1⟩ => SqT.of (s1 _ _ ht)) ?_ ?_⟩
    · rintro i x σ H1 H2 hi ⟨v1, v2, rfl, s1⟩ ⟨a, y, z, rfl, n1, rfl, e1, e2⟩
      obtain ⟨t', h1, rfl⟩ := at_map e2
      have hm := List.mem_of_getElem? h1
      refine ⟨_, _, rfl, SqT.of upd_same, rfl, _, _, rfl, _, _, rfl, rfl, ?_⟩
      refine ⟨_, rfl, t', rfl, hg.sgn t' hm, Nat.le_trans (hg.text hm) (by decide), fun H3 s3 => ⟨_, rfl, iteF ?_⟩⟩
      exact ⟨_, _, rfl, (put s1 (s1.free n1)).trans s3⟩
    · rintro σ H1 ⟨v1, v2, rfl, s1⟩
      refine ⟨_, rfl, t, rfl, ⟨_, SqT.of (s1 _ _ ht)⟩, fun L hL => lc_it (walk_tup (xs := ts.map VS)) (fun i H' => Same H H' ∧ H L = none ∧ H' L = some (.lst (((ts.take i).map fun x => (x.length : Int)).map V.int))) ⟨put s1 (s1.free hL), s1.free hL, upd_same⟩ (fun i H' _ ⟨s2, _⟩ => SqT.of (s2 _ _ ht)) ?_ ?_⟩
      · rintro i x H2 H3 hi ⟨s2, n2, e2⟩ ⟨rfl, hx⟩
        obtain ⟨t', h1, rfl⟩ := at_map hx
        have hm := List.mem_of_getElem? h1
        refine ⟨rfl, _, rfl, _, rfl, by rw [S_len]; exact line2 (Nat.le_trans (hg.text hm) (by decide)), _, e2, ?_, put s2 n2, n2, ?_⟩
        · rw [List.length_map, List.length_map, List.length_take]
          have := hg.few
          exact line1 (by omega)
        · rw [upd_same, List.take_add_one, h1, S_len, List.map_append, List.map_append]
          rfl
      · rintro H2 ⟨s2, n2, e2⟩
        refine ⟨_, _, rfl, SqL.of e2, _, _, rfl, rfl, _, rfl, ?_⟩
        have hs : ((ts.take (ts.map VS).length).map fun x => (x.length : Int)).sum = (((ts.map List.length).sum : Nat) : Int) := by
          rw [List.length_map, List.take_length]
          exact sum_int ts
        rw [hs]
        refine ite2 (fun q => ?_) (fun q => ?_)
        · have := of_decide_eq_true q
          have := hg.sum
          omega
        · exact k _ s2
abbrev sLib : Stmt := inClass (top 20) 0
theorem sc20 : FnScope ["self", "texts", "part"] ["self", "texts"] (defScope sLib) := ⟨rfl, rfl, rfl, by decide +kernel, rfl, by decide +kernel, by decide +kernel⟩
theorem ok_lib (T : Txt K mg CL CM CC) (D : Di K mg CL "Library" "Library.__init__" sLib ["self", "texts"]) (G : Cd P w K mg base 2 "first_wrong" spWrong) : Ci P w K mg base 3 CL "Library" (spLibInit CL) := by
  refine D.ok sc20 (fun vs H Q E h => ?_) (fun f cdv A outer s H vs Q E hr h => ?_)
  · obtain ⟨p, t, dx, ts, rfl, _⟩ := h
    rfl
  · obtain ⟨p, t, dx, ts, rfl, hp, ht, hg, k⟩ := h
    refine ⟨_, pss_cons (ps_set (i := 2) sc20.nd rfl (Or.inl rfl) (pe_cd G hr (by decide) (by rfl) (pa_cons (pv 1) pa_nil)))
      (pss_cons (ps_if (pt_cmpR op_notN (pv 2) pe_non (nomark _)) (pss_one ps_never) pss_nil)
      (pss_one (ps_fld (pv 0) (pv 1) rfl))), ?_⟩
    refine ⟨_, rfl, t, ts, rfl, ht, hg, fun H1 s1 => ⟨_, rfl, rfl, _, rfl, iteF ?_⟩⟩
    refine ⟨_, rfl, _, rfl, p, CL, dx, [], rfl, s1 _ _ hp, T.cL, T.nT, (by show 0 < 1000; decide), ?_⟩
    exact k _ (fun b o e hb => by rw [upd_ne hb]; exact s1 _ _ e) upd_same
end
end Ep
end
section
set_option linter.all false
set_option maxRecDepth 100000
/-! EpW2: the walks of all_places, ending_at, numbered. -/
namespace Ep
open PySem PyProof.Rows L2 EP EpR
/-! ### rules with the written part named (for blocks of their own) -/
section
variable {X : Cx} {K : PySem.W.Frag} {e o a b : Expr} {f : Str} {pos : Pos} {ta tb : TE} {es : List Expr} {k n : Nat} {t : TGs}
theorem px_fld (hK : X.K = K) (he : PE X e ta) (hb : attributeBase e f X.env (eval e X.env) = eval e X.env) : PE X (.Attribute e f pos) (tFld K ta f) := by
  subst hK
  exact pe_fld he hb
theorem px_ixT (hK : X.K = K) (ha : PE X a ta) (hb : PE X b tb) (hs : PlainIx b) : PE X (.Subscript a b pos) (tOp (rIxT K) ta tb) := by
  subst hK
  exact pe_ix ix_tup ha hb hs
theorem px_ixL (hK : X.K = K) (ha : PE X a ta) (hb : PE X b tb) (hs : PlainIx b) : PE X (.Subscript a b pos) (tOp (rIxL K) ta tb) := by
  subst hK
  exact pe_ix ix_list ha hb hs
theorem pg_tupK (hK : X.K = K) (hc : X.calm = true) (h : PGs X es t) (hn : (assignEach es X.env).length = n := by rfl) (hst : (assignEach es X.env).findIdx? (·.1) = none := by rfl) : PG X (.Tuple es k pos) (gTup K n t) := by
  subst hK
  exact pg_tup hc h hn hst
end
/-! ### places in lists -/
theorem ZL.snoc {H : Hp} {l p : Addr} {zs : List (Addr × Pl)} {q : Pl} {o : HO} (ho : o = PlO q) (h : ZL H l zs) (n : H p = none) : ZL (upd (upd H p o) l (.lst (zs.map (fun z => V.ref z.1) ++ [V.ref p]))) l (zs ++ [(p, q)]) := by
  subst ho
  refine ⟨by rw [upd_same, List.map_append]; rfl, fun z hz => ?_⟩
  rcases List.mem_append.mp hz with hz | hz
  · have h1 := h.2 z hz
    have n1 : z.1 ≠ l := ne_of h1 h.1 (by intro q; cases q)
    rw [upd_ne n1, upd_ne (ne_of_none h1 n)]
    exact h1
  · have e := List.mem_singleton.mp hz
    subst e
    have n1 : p ≠ l := (ne_of_none h.1 n).symm
    show upd _ _ _ p = _
    rw [upd_ne n1, upd_same]
theorem ZL.nil {H : Hp} {l : Addr} : ZL (upd H l (.lst [])) l [] := ⟨upd_same, fun z hz => nomatch hz⟩
theorem ZL.app {H : Hp} {l d : Addr} {zs ys : List (Addr × Pl)} (h : ZL H l zs) (g : ZL H d ys) : ZL (upd H l (.lst (zs.map (fun z => V.ref z.1) ++ ys.map fun z => V.ref z.1))) l (zs ++ ys) := by
  refine ⟨by rw [upd_same, List.map_append], fun z hz => ?_⟩
  have h1 : H z.1 = some (PlO z.2) := (List.mem_append.mp hz).elim (h.2 z) (g.2 z)
  rw [upd_ne (ne_of h1 h.1 (by intro q; cases q))]
  exact h1
theorem rowP_take (ts : List Wd) (i n : Nat) : n ≤ (tx ts i).length → ((List.range n).map fun j => (i, j)).length ≤ (tx ts i).length := fun h => by rw [List.length_map, List.length_range]; exact h
/-- the places of the first texts -/
def prefP (ts : List Wd) (i : Nat) : List Pl := (List.range i).flatMap (rowP ts)
theorem prefP_succ (ts : List Wd) (i : Nat) : prefP ts (i + 1) = prefP ts i ++ rowP ts i := by
  unfold prefP
  rw [List.range_succ, List.flatMap_append, List.flatMap_singleton]
theorem prefP_all (ts : List Wd) : prefP ts ts.length = allP ts := rfl
theorem prefP_le (ts : List Wd) {i j : Nat} (h : i ≤ j) : (prefP ts i).length ≤ (prefP ts j).length := by
  induction h with
  | refl => exact Nat.le_refl _
  | step _ ih => rw [prefP_succ, List.length_append]; exact Nat.le_trans ih (Nat.le_add_right _ _)
/-! ### numbers of keys -/
section
variable {α κ : Type} [DecidableEq α] [DecidableEq κ]
def numsF (enc : α → κ) (d : List α) (n : Nat) : List (κ × V) := (d.zipIdx n).map fun p => (enc p.1, V.int (p.2 : Nat))
theorem numsF_len (enc : α → κ) (d : List α) (n : Nat) : (numsF enc d n).length = d.length := by unfold numsF; rw [List.length_map, List.length_zipIdx]
theorem numsF_snoc (enc : α → κ) (d : List α) (x : α) : numsF enc (d ++ [x]) 0 = numsF enc d 0 ++ [(enc x, V.int (d.length : Nat))] := by
  unfold numsF
  rw [List.zipIdx_append, List.map_append, Nat.zero_add]
  rfl
theorem numsF_val {enc : α → κ} (hi : ∀ x y, enc x = enc y → x = y) (x : α) : ∀ (d : List α) (n : Nat), valV (numsF enc d n) (enc x) = if x ∈ d then some (V.int ((d.idxOf x + n : Nat))) else none
  | [], n => by simp [numsF, valV_nil]
  | y :: d, n => by
    have e : numsF enc (y :: d) n = (enc y, V.int (n : Nat)) :: numsF enc d (n + 1) := by unfold numsF; rw [List.zipIdx_cons]; rfl
    rw [e]
    by_cases h : y = x
    · subst h
      rw [valV_pos rfl, if_pos List.mem_cons_self, List.idxOf_cons_self, Nat.zero_add]
    · rw [valV_neg (fun z => h (hi _ _ z)), numsF_val hi x d (n + 1)]
      by_cases hm : x ∈ d
      · have e2 : (y :: d).idxOf x = d.idxOf x + 1 := by
          rw [List.idxOf_cons, show (y == x) = false from by simpa using h]
          rfl
        rw [if_pos hm, if_pos (List.mem_cons_of_mem _ hm), e2, show d.idxOf x + (n + 1) = d.idxOf x + 1 + n from by omega]
      · rw [if_neg hm, if_neg (by rw [List.mem_cons]; exact fun z => z.elim (fun e => h e.symm) hm)]
def rk (d : List α) (x : α) : Int := ((d.idxOf x : Nat) : Int)
theorem nums_val {enc : α → κ} (hi : ∀ x y, enc x = enc y → x = y) (x : α) (d : List α) : valV (numsF enc d 0) (enc x) = if x ∈ d then some (V.int (rk d x)) else none := numsF_val hi x d 0
theorem rk_get {d : List α} {x : α} (h : x ∈ d) : d[(rk d x).toNat]? = some x ∧ 0 ≤ rk d x := by
  unfold rk
  have h1 := List.idxOf_lt_length_iff.mpr h
  refine ⟨?_, Int.natCast_nonneg _⟩
  rw [Int.toNat_natCast, List.getElem?_eq_getElem h1, List.getElem_idxOf]
theorem not_taken {d : List α} (nd : d.Nodup) {i : Nat} {x : α} (h : d[i]? = some x) : x ∉ d.take i := fun hin => by
  obtain ⟨j, hj, ej⟩ := List.getElem_of_mem hin
  rw [List.length_take] at hj
  rw [List.getElem_take] at ej
  obtain ⟨hi, e5⟩ := List.getElem?_eq_some_iff.mp h
  exact List.pairwise_iff_getElem.mp nd j i (by omega) hi (by omega) (by rw [ej, e5])
theorem rank_rk {lt : α → α → Prop} (O : SOrd lt) {d xs : List α} (hd : d.Pairwise lt) (hm : ∀ x ∈ xs, x ∈ d) : IsRank lt xs (xs.map (rk d)) := rank_idx O hd hm
end
/-! ### promises -/
def spAll (CL : Addr) : Sp := fun vs H Q _ => ∃ (b : Addr) (ts : List Wd), vs = [.ref b] ∧ LibAt CL H b ts ∧ Good ts ∧ ∀ H' l, Same H H' → PL H' l (allP ts) → Q (.ref l) H'
def spEnd (CL : Addr) : Sp := fun vs H Q _ => ∃ (b p : Addr) (ts : List Wd) (q : Pl), vs = [.ref b, .ref p] ∧ LibAt CL H b ts ∧ Good ts ∧ H p = some (PlO q) ∧ q.1 < ts.length ∧ Q (VS (suf ts q)) H
def spNumT : Sp := fun vs H Q _ => ∃ (a : Addr) (ks : List Wd), vs = [.ref a] ∧ H a = some (.lst (ks.map VS)) ∧ ks.length ≤ 2000 ∧ ∀ H' l r, Same H H' → IsRank (fun x y : Wd => x < y) ks r → H' l = some (.lst (r.map V.int)) → Q (.ref l) H'
def IPO (p : Int × Int) : HO := .tup [.int p.1, .int p.2]
def spNumP : Sp := fun vs H Q _ => ∃ (a : Addr) (zs : List (Addr × Int × Int)), vs = [.ref a] ∧ H a = some (.lst (zs.map fun z => V.ref z.1)) ∧ (∀ z ∈ zs, H z.1 = some (IPO z.2)) ∧ zs.length ≤ 2000 ∧ ∀ H' l r, Same H H' → IsRank ilt (zs.map Prod.snd) r → H' l = some (.lst (r.map V.int)) → Q (.ref l) H'
section
variable {P : Program} {w : World} {K : PySem.W.Frag} {mg : Str → Option Value} {base : Heap} {CL CM CC : Addr}
abbrev N21 : List Str := ["library", "found", "number", "text", "at"]
theorem sc21 : FnScope N21 ["library"] (defScope (top 21)) := ⟨rfl, rfl, rfl, by decide +kernel, rfl, by decide +kernel, by decide +kernel⟩
theorem ok_all (T : Txt K mg CL CM CC) (D : Df K mg "all_places" (top 21) ["library"]) : Cd P w K mg base 1 "all_places" (spAll CL) := by
  refine D.ok sc21 (fun vs H Q E h => ?_) (fun f cdv A outer s H vs Q E hr h => ?_)
  · obtain ⟨b, ts, rfl, _⟩ := h
    rfl
  · obtain ⟨b, ts, rfl, hL, hg, k⟩ := h
    obtain ⟨t, dx, hb, ht⟩ := id hL
    refine ⟨_, pss_cons (ps_set (i := 1) sc21.nd rfl (Or.inl rfl) (pe_lst pa_nil))
      (pss_cons (ps_for PassesOwn.never rfl (pi_enumT (by rfl) T.enumerate (pa_cons (pe_fld (pv 0) rfl) pa_nil)) (pg_tup rfl (pgs_cons (pg_name (i := 2) sc21.nd rfl (Or.inr rfl)) (pgs_cons (pg_name (i := 3) sc21.nd rfl (Or.inl rfl)) pgs_nil)))
        (pss_one (ps_expr (pe_bm PySem.F.plainAttrs_list PySem.F.slot_list_extend PySem.F.type_list_extend mt_extend (pv 1) (pa_cons (pe_lc (own := [("at", 4)]) (g := gName 4) (tt := tYes) rfl sc21.nd (pi_range1 (by rfl) T.range (pa_cons (pe_lens T.len (pv 3)) pa_nil)) (blkOk_by (N := N21) (sc := defScope (top 21)) (by decide +kernel))
          (fun _ _ _ _ _ => pg_name (i := 4) sc21.nd rfl (Or.inl rfl)) (fun _ _ _ _ _ => pts_nil) (fun _ _ _ _ _ => pe_tup (pa_cons (pv 2) (pa_cons (pv 4) pa_nil)))) pa_nil)))))
      (pss_one (ps_ret (pv 1)))), ?_⟩
    refine ⟨Nat.zero_le _, fun F hF => ?_⟩
    have s0 : Same H (upd H F (.lst [])) := put (Same.refl H) hF
    refine ⟨_, rfl, b, CL, dx, _, _, rfl, s0 _ _ hb, T.cL, T.nT, lk_one, t, _, rfl, SqT.of (s0 _ _ ht), for_it (walk_enumT (xs := ts.map VS)) (fun i σ H' => ∃ v1 v2 zs, σ = [some (.ref b), some (.ref F), v1, v2, none] ∧ Same H H' ∧ ZL H' F zs ∧ zs.map Prod.snd = prefP ts i) ⟨none, none, [], rfl, s0, ZL.nil, rfl⟩ (fun i σ H' _ ⟨_, _, _, _, s1, _⟩ => SqT.of (s1 _ _ ht)) ?_ ?_⟩
    · rintro i x σ H1 H2 hi ⟨v1, v2, zs, rfl, s1, z1, e1⟩ ⟨a, y, z, rfl, n1, rfl, e2, e3⟩
      obtain ⟨t', h1, rfl⟩ := at_map e3
      obtain rfl := Option.some.inj e2
      have hm := List.mem_of_getElem? h1
      have hi' : i < ts.length := by rw [List.length_map] at hi; exact hi
      have et : tx ts i = t' := tx_of h1
      refine ⟨_, _, rfl, SqT.of upd_same, rfl, _, _, rfl, _, _, rfl, rfl, ?_⟩
      have s2 : Same H1 (upd H1 a (.tup [.int (i : Nat), VS t'])) := put (Same.refl H1) n1
      have hz : (zs.map fun z => V.ref z.1).length + t'.length ≤ 2000 := by
        have e4 : zs.length = (prefP ts i).length := by rw [← e1, List.length_map]
        have e5 := prefP_le ts (show i + 1 ≤ ts.length from hi')
        rw [prefP_succ, List.length_append, prefP_all] at e5
        have e6 : (rowP ts i).length = t'.length := by unfold rowP; rw [List.length_map, List.length_range, et]
        have := hg.all
        rw [List.length_map]
        omega
      refine ⟨_, rfl, .inl ⟨rfl, _, SqL.of (s2 _ _ z1.1)⟩, _, rfl, _, rfl, by rw [S_len]; exact line2 (Nat.le_trans (hg.text hm) (by decide)), _, rfl, ?_, ?_, fun L hL2 => lc_it walk_range (fun j H' => ∃ ys, Same H1 H' ∧ ZL H' L ys ∧ ys.map Prod.snd = (List.range j).map (fun k => (i, k))) ⟨[], put s2 (s2.free hL2), ZL.nil, rfl⟩ (fun _ _ _ _ => trivial) ?_ ?_⟩
      · rw [S_len]; have := hg.text hm; omega
      · rw [S_len]; have := hg.text hm; omega
      · rintro j x H3 H4 hj ⟨ys, s3, z3, e4⟩ ⟨rfl, rfl⟩
        have hj' : j < t'.length := by rw [S_len] at hj; omega
        have hyl : ys.length = j := by have := congrArg List.length e4; simpa using this
        refine ⟨rfl, _, rfl, _, rfl, by show 2 ≤ sizeLine; decide, fun p hp => ?_⟩
        refine ⟨_, upd_eq z3.1 hp, ?_, ys ++ [(p, (i, j))], put (put s3 (s3.free hp)) ?_, ZL.snoc ?_ z3 hp, ?_⟩
        · rw [List.length_map, hyl]
          exact line1 (by omega)
        · exact s2.free hL2
        · show HO.tup [V.int (i : Nat), V.int (0 + (j : Nat))] = HO.tup [V.int (i : Nat), V.int (j : Nat)]
          rw [Int.zero_add]
        · rw [List.map_append, e4, List.range_succ, List.map_append]
          rfl
      · rintro H3 ⟨ys, s3, z3, e4⟩
        have z1' := z1.same s3
        refine ⟨F, L, _, _, rfl, rfl, z1'.1, z3.1, ?_, ?_⟩
        · have hyl : ys.length = t'.length := by have := congrArg List.length e4; rw [S_len] at this; simpa using this
          rw [List.length_map (as := ys), hyl]
          exact line2 (by omega)
        · refine ⟨_, _, zs ++ ys, rfl, fun c o e => ?_, ZL.app z1' z3, ?_⟩
          · rw [upd_ne (ne_of_none e hF)]
            exact s3 _ _ (s1 _ _ e)
          · rw [List.map_append, e1, e4, prefP_succ, S_len]
            unfold rowP
            rw [et]
            congr 3
    · rintro σ H1 ⟨v1, v2, zs, rfl, s1, z1, e1⟩
      refine ⟨_, rfl, k _ _ s1 ⟨zs, z1, ?_⟩⟩
      rw [e1, List.length_map, prefP_all]
theorem sc22 : FnScope ["library", "place"] ["library", "place"] (defScope (top 22)) := ⟨rfl, rfl, rfl, by decide +kernel, rfl, by decide +kernel, by decide +kernel⟩
theorem ok_end (T : Txt K mg CL CM CC) (D : Df K mg "ending_at" (top 22) ["library", "place"]) : Cd P w K mg base 1 "ending_at" (spEnd CL) := by
  refine D.ok sc22 (fun vs H Q E h => ?_) (fun f cdv A outer s H vs Q E hr h => ?_)
  · obtain ⟨b, p, ts, q, rfl, _⟩ := h
    rfl
  · obtain ⟨b, p, ts, q, rfl, hL, hg, hp, hq, k⟩ := h
    obtain ⟨t, dx, hb, ht⟩ := id hL
    refine ⟨_, pss_one (ps_ret (pe_slice sl_str (pe_ix ix_tup (pe_fld (pv 0) rfl) (pe_ix ix_tup (pv 1) pe_int (fun _ _ => rfl)) (fun _ _ => rfl)) (po_some (pe_ix ix_tup (pv 1) pe_int (fun _ _ => rfl))) po_none)), ?_⟩
    have h1 : ts[q.1]? = some (tx ts q.1) := by
      rw [List.getElem?_eq_getElem hq, tx_of (List.getElem?_eq_getElem hq)]
    refine ⟨_, rfl, b, CL, dx, _, _, rfl, hb, T.cL, T.nT, lk_one, _, rfl, p, _, _, _, rfl, rfl, SqT.of hp, atI_nat (j := 0) rfl, t, _, _, _, rfl, rfl, SqT.of ht, atI_nat (j := q.1) (by rw [List.getElem?_map, h1]; rfl), ?_⟩
    refine ⟨_, rfl, p, _, _, _, rfl, rfl, SqT.of hp, atI_nat (j := 1) rfl, _, rfl, _, rfl, by rw [S_len]; exact line2 (Nat.le_trans (hg.tx _) (by decide)), ?_⟩
    rw [cut_from]
    exact k
end
end Ep
end
section
set_option linter.all false
set_option maxRecDepth 100000
/-! EpW3: the walks of numbered: texts, pairs of numbers. -/
namespace Ep
open PySem PySem.W PySem.Calls PyProof.Rows L2 EP EpR
def kT (z : Wd) : Key := Sum.inr (S z)
theorem kT_inj (x y : Wd) (h : kT x = kT y) : x = y := S_inj (Sum.inr.inj h)
def kP (z : Int × Int) : List Key := [Sum.inl z.1, Sum.inl z.2]
theorem kP_inj (x y : Int × Int) (h : kP x = kP y) : x = y := by
  obtain ⟨a, b⟩ := x
  obtain ⟨c, d⟩ := y
  simp only [kP, List.cons.injEq, Sum.inl.injEq, and_true] at h
  rw [h.1, h.2]
theorem IPO_kP (z : Int × Int) : IPO z = .tup ((kP z).map kV) := rfl
section
variable {P : Program} {w : World} {K : PySem.W.Frag} {mg : Str → Option Value} {base : Heap} {CL CM CC : Addr}
abbrev N24 : List Str := ["keys", "numbers", "key"]
theorem sc24 : FnScope N24 ["keys"] (defScope (top 24)) := ⟨rfl, rfl, rfl, by decide +kernel, rfl, by decide +kernel, by decide +kernel⟩
theorem ok_numT (T : Txt K mg CL CM CC) (D : Df K mg "numbered" (top 24) ["keys"]) : Cd P w K mg base 1 "numbered" spNumT := by
  refine D.ok sc24 (fun vs H Q E h => ?_) (fun f cdv A outer s H vs Q E hr h => ?_)
  · obtain ⟨a, ks, rfl, _⟩ := h
    rfl
  · obtain ⟨a, ks, rfl, ha, hl, k⟩ := h
    have hu := hu_of hr
    refine ⟨_, pss_cons (ps_set (i := 1) sc24.nd rfl (Or.inr rfl) pe_dnewK)
      (pss_cons (ps_for PassesOwn.never rfl (pi_list (pe_callB (cr_sortD hr.units) (by rfl) T.sorted (by decide +kernel) (pa_cons (pv 0) pa_nil))) (pg_name (i := 2) sc24.nd rfl (Or.inl rfl))
        (pss_one (ps_if (pt_cmp (pc_dnotin hu (pv 2) (pv 1))) (pss_one (ps_dput hu (pv 1) (pv 2) (pe_callB call_lenD (by rfl) T.len PySem.boot_len (pa_cons (pv 1) pa_nil)) rfl)) pss_nil)))
      (pss_one (ps_ret (pe_lc (own := [("key", 2)]) (g := gName 2) (tt := tYes) rfl sc24.nd (pi_list (pv 0)) (blkOk_by (N := N24) (sc := defScope (top 24)) (by decide +kernel))
          (fun _ _ _ _ _ => pg_name (i := 2) sc24.nd rfl (Or.inl rfl)) (fun _ _ _ _ _ => pts_nil) (fun _ _ _ _ _ => pe_dget hu (pv 1) (pv 2) (fun _ _ => rfl)))))), ?_⟩
    intro d hd
    have s0 : Same H (upd H d (.dK [])) := put (Same.refl H) hd
    refine ⟨_, rfl, Wd, VS, fun z => .str (S z), ks, a, rfl, SqL.of (s0 _ _ ha), fun z _ => .str _, AllAlike.of fun _ _ => rfl, Sortable.others fun _ => ⟨nofun, nofun⟩, fun _ _ => by show 0 ≤ 8; decide, fun ys p hp hs np => ?_⟩
    have s1 : Same H (upd (upd H d (.dK [])) p (.lst (ys.map VS))) := put s0 (s0.free np)
    have npd : d ≠ p := ne_of_none (upd_same (H := H) (o := .dK [])) np
    have hs' : ys.Pairwise fun x y => ¬ y < x := by
      rw [dataLe_str] at hs
      refine hs.imp fun {x y} h => ?_
      have h : x ≤ y := of_decide_eq_true h
      exact List.not_lt.mpr h
    have hyl : ys.length = ks.length := hp.length_eq
    refine ⟨p, rfl, ⟨_, SqL.of upd_same⟩, for_list (K := K) (a := p) (xs := ys.map VS) (fun i σ H' => ∃ dd v, σ = [some (.ref a), some (.ref d), v] ∧ Same H H' ∧ H' d = some (.dK (numsF kT dd 0)) ∧ H' p = some (.lst (ys.map VS)) ∧ Dist (fun x y : Wd => x < y) ys i dd)
      ⟨[], none, rfl, s1, by rw [upd_ne npd]; exact upd_same, upd_same, Dist.zero _⟩ (fun i σ H' _ ⟨_, _, _, _, _, q, _⟩ => SqL.of q) ?_ ?_⟩
    · rintro i x σ H1 hx ⟨dd, v, rfl, s2, e2, e3, D2⟩
      obtain ⟨z, hz, rfl⟩ := at_map hx
      have g := DGet.k (k := kT z) e2
      rw [nums_val kT_inj] at g
      refine ⟨_, rfl, _, rfl, d, _, rfl, g, _, rfl, ?_⟩
      by_cases hm : z ∈ dd
      · rw [if_pos hm]
        refine iteF ?_
        exact ⟨dd, _, rfl, s2, e2, e3, D2.same hz hm⟩
      · rw [if_neg hm]
        refine iteT ?_
        have hdl : dd.length ≤ 2000 := by
          have h1 : dd.length ≤ ys.length := sub_len (D2.rise.imp (fun {a b} (h : a < b) => (fun (e : a = b) => wd_irr a (by rw [← e] at h; exact h) : a ≠ b))) fun x hx => List.mem_of_mem_take ((D2.mem x).mp hx)
          omega
        refine ⟨_, rfl, d, _, rfl, e2, _, rfl, _, rfl, _, _, rfl, DPut.k (k := kT z) e2 (by rw [numsF_len]; exact line1 (by omega)), ?_⟩
        refine ⟨dd ++ [z], _, rfl, fun b o e => ?_, ?_, ?_, D2.more sord_wd hs' hz hm⟩
        · rw [upd_ne (ne_of_none e hd)]
          exact s2 _ _ e
        · rw [upd_same, numsF_snoc, numsF_len, putK_new _ (by rw [nums_val kT_inj, if_neg hm])]
        · rw [upd_ne npd.symm]
          exact e3
    · rintro σ H1 ⟨dd, v, rfl, s2, e2, e3, D2⟩
      rw [List.length_map] at D2
      have hmem : ∀ x ∈ ks, x ∈ dd := fun x hx => (D2.mem x).mpr (by rw [List.take_length]; exact hp.mem_iff.mpr hx)
      refine ⟨_, rfl, a, rfl, ⟨_, SqL.of (s2 _ _ ha)⟩, fun L hL => lc_it (walk_list (K := K) (xs := ks.map VS)) (fun i H' => Same H1 H' ∧ H' L = some (.lst (((ks.take i).map (rk dd)).map V.int))) ⟨put (Same.refl H1) hL, upd_same⟩ (fun i H' _ ⟨s3, _⟩ => SqL.of (s3 _ _ (s2 _ _ ha))) ?_ ?_⟩
      · rintro i x H3 H4 hi ⟨s3, e4⟩ ⟨rfl, hx⟩
        obtain ⟨z, hz, rfl⟩ := at_map hx
        have g := DGet.k (k := kT z) (s3 _ _ e2)
        rw [nums_val kT_inj, if_pos (hmem z (List.mem_of_getElem? hz))] at g
        refine ⟨rfl, _, rfl, _, rfl, d, _, rfl, g, _, e4, ?_, put s3 hL, ?_⟩
        · rw [List.length_map, List.length_map, List.length_take]
          exact line1 (by omega)
        · rw [upd_same, List.take_add_one, hz, List.map_append, List.map_append]
          rfl
      · rintro H3 ⟨s3, e4⟩
        rw [List.length_map, List.take_length] at e4
        exact k _ _ _ (s2.trans s3) (rank_rk sord_wd D2.rise hmem) e4
theorem ok_numP (T : Txt K mg CL CM CC) (D : Df K mg "numbered" (top 24) ["keys"]) : Cd P w K mg base 1 "numbered" spNumP := by
  refine D.ok sc24 (fun vs H Q E h => ?_) (fun f cdv A outer s H vs Q E hr h => ?_)
  · obtain ⟨a, ks, rfl, _⟩ := h
    rfl
  · obtain ⟨a, ks, rfl, ha, hk, hl, k⟩ := h
    have hu := hu_of hr
    refine ⟨_, pss_cons (ps_set (i := 1) sc24.nd rfl (Or.inr rfl) pe_dnewT)
      (pss_cons (ps_for PassesOwn.never rfl (pi_list (pe_callB (cr_sortD hr.units) (by rfl) T.sorted (by decide +kernel) (pa_cons (pv 0) pa_nil))) (pg_name (i := 2) sc24.nd rfl (Or.inl rfl))
        (pss_one (ps_if (pt_cmp (pc_dnotin hu (pv 2) (pv 1))) (pss_one (ps_dput hu (pv 1) (pv 2) (pe_callB call_len_dT (by rfl) T.len PySem.boot_len (pa_cons (pv 1) pa_nil)) rfl)) pss_nil)))
      (pss_one (ps_ret (pe_lc (own := [("key", 2)]) (g := gName 2) (tt := tYes) rfl sc24.nd (pi_list (pv 0)) (blkOk_by (N := N24) (sc := defScope (top 24)) (by decide +kernel))
          (fun _ _ _ _ _ => pg_name (i := 2) sc24.nd rfl (Or.inl rfl)) (fun _ _ _ _ _ => pts_nil) (fun _ _ _ _ _ => pe_dget hu (pv 1) (pv 2) (fun _ _ => rfl)))))), ?_⟩
    intro d hd
    have s0 : Same H (upd H d (.dT [])) := put (Same.refl H) hd
    refine ⟨_, rfl, Addr × Int × Int, fun z => .ref z.1, fun z => .tuple [.int z.2.1, .int z.2.2], ks, a, rfl, SqL.of (s0 _ _ ha), fun z hz => .pair (SqT.of (s0 _ _ (hk z hz))) (.int _) (.int _), AllAlike.of fun _ _ => by simp [alike, alikeAll], .inl fun q hq => ?_, fun _ _ => ?_, fun ys p hp hs np => ?_⟩
    · obtain ⟨z, _, rfl⟩ := List.mem_map.mp hq
      exact ⟨_, _, rfl⟩
    · simp [PyData.depth, PyData.depthAll]
    have s1 : Same H (upd (upd H d (.dT [])) p (.lst (ys.map fun z => V.ref z.1))) := put s0 (s0.free np)
    have npd : d ≠ p := ne_of_none (upd_same (H := H) (o := .dT [])) np
    have hs' : (ys.map Prod.snd).Pairwise fun x y => ¬ ilt y x := by
      rw [dataLe_ii] at hs
      rw [List.pairwise_map]
      refine hs.imp fun {x y} h => ?_
      have h := of_decide_eq_true h
      unfold ilt
      omega
    have hyl : ys.length = ks.length := hp.length_eq
    refine ⟨p, rfl, ⟨_, SqL.of upd_same⟩, for_list (K := K) (a := p) (xs := ys.map fun z => V.ref z.1) (fun i σ H' => ∃ dd v, σ = [some (.ref a), some (.ref d), v] ∧ Same H H' ∧ H' d = some (.dT (numsF kP dd 0)) ∧ H' p = some (.lst (ys.map fun z => V.ref z.1)) ∧ Dist ilt (ys.map Prod.snd) i dd)
      ⟨[], none, rfl, s1, by rw [upd_ne npd]; exact upd_same, upd_same, Dist.zero _⟩ (fun i σ H' _ ⟨_, _, _, _, _, q, _⟩ => SqL.of q) ?_ ?_⟩
    · rintro i x σ H1 hx ⟨dd, v, rfl, s2, e2, e3, D2⟩
      obtain ⟨z, hz, rfl⟩ := at_map hx
      have hz2 : (ys.map Prod.snd)[i]? = some z.2 := by rw [List.getElem?_map, hz]; rfl
      have hzk : H1 z.1 = some (.tup ((kP z.2).map kV)) := s2 _ _ (hk z (hp.mem_iff.mp (List.mem_of_getElem? hz)))
      have g := DGet.t (k := kP z.2) e2 hzk
      rw [nums_val kP_inj] at g
      refine ⟨_, rfl, _, rfl, d, _, rfl, g, _, rfl, ?_⟩
      by_cases hm : z.2 ∈ dd
      · rw [if_pos hm]
        refine iteF ?_
        exact ⟨dd, _, rfl, s2, e2, e3, D2.same hz2 hm⟩
      · rw [if_neg hm]
        refine iteT ?_
        have hdl : dd.length ≤ 2000 := by
          have h1 : dd.length ≤ (ys.map Prod.snd).length := sub_len (D2.rise.imp (fun {a b} (h : ilt a b) => (fun (e : a = b) => sord_ii.irr a (by rw [← e] at h; exact h) : a ≠ b))) fun x hx => List.mem_of_mem_take ((D2.mem x).mp hx)
          rw [List.length_map] at h1
          omega
        refine ⟨_, rfl, d, _, rfl, e2, _, rfl, _, rfl, _, _, rfl, DPut.t (k := kP z.2) e2 hzk (by rw [numsF_len]; exact line1 (by omega)), ?_⟩
        refine ⟨dd ++ [z.2], _, rfl, fun b o e => ?_, ?_, ?_, D2.more sord_ii hs' hz2 hm⟩
        · rw [upd_ne (ne_of_none e hd)]
          exact s2 _ _ e
        · rw [upd_same, numsF_snoc, numsF_len, putK_new _ (by rw [nums_val kP_inj, if_neg hm])]
        · rw [upd_ne npd.symm]
          exact e3
    · rintro σ H1 ⟨dd, v, rfl, s2, e2, e3, D2⟩
      have hmem : ∀ x ∈ ks.map Prod.snd, x ∈ dd := fun x hx => (D2.mem x).mpr (by rw [List.length_map, List.take_of_length_le (by rw [List.length_map]; exact Nat.le_refl _)]; exact (hp.map Prod.snd).mem_iff.mpr hx)
      refine ⟨_, rfl, a, rfl, ⟨_, SqL.of (s2 _ _ ha)⟩, fun L hL => lc_it (walk_list (K := K) (xs := ks.map fun z => V.ref z.1)) (fun i H' => Same H1 H' ∧ H' L = some (.lst ((((ks.map Prod.snd).take i).map (rk dd)).map V.int))) ⟨put (Same.refl H1) hL, upd_same⟩ (fun i H' _ ⟨s3, _⟩ => SqL.of (s3 _ _ (s2 _ _ ha))) ?_ ?_⟩
      · rintro i x H3 H4 hi ⟨s3, e4⟩ ⟨rfl, hx⟩
        obtain ⟨z, hz, rfl⟩ := at_map hx
        have hz2 : (ks.map Prod.snd)[i]? = some z.2 := by rw [List.getElem?_map, hz]; rfl
        have hzk : H4 z.1 = some (.tup ((kP z.2).map kV)) := s3 _ _ (s2 _ _ (hk z (List.mem_of_getElem? hz)))
        have g := DGet.t (k := kP z.2) (s3 _ _ e2) hzk
        rw [nums_val kP_inj, if_pos (hmem z.2 (List.mem_of_getElem? hz2))] at g
        refine ⟨rfl, _, rfl, _, rfl, d, _, rfl, g, _, e4, ?_, put s3 hL, ?_⟩
        · rw [List.length_map, List.length_map, List.length_take, List.length_map]
          exact line1 (by omega)
        · rw [upd_same, List.take_add_one, hz2, List.map_append, List.map_append]
          rfl
      · rintro H3 ⟨s3, e4⟩
        rw [List.length_map, List.take_of_length_le (by rw [List.length_map]; exact Nat.le_refl _)] at e4
        exact k _ _ _ (s2.trans s3) (rank_rk sord_ii D2.rise hmem) e4
end
end Ep
end
section
set_option linter.all false
set_option maxRecDepth 100000
/-! EpW4: the walks of tails_of, order_of. -/
namespace Ep
open PySem PySem.W PySem.Calls PyProof.Rows L2 EP EpR
def kQ (p : Pl) : List Key := [Sum.inl ((p.1 : Nat) : Int), Sum.inl ((p.2 : Nat) : Int)]
theorem kQ_inj (x y : Pl) (h : kQ x = kQ y) : x = y := by
  obtain ⟨a, b⟩ := x
  obtain ⟨c, d⟩ := y
  simp only [kQ, List.cons.injEq, Sum.inl.injEq, and_true] at h
  obtain ⟨h1, h2⟩ := h
  have h1 : a = c := by omega
  have h2 : b = d := by omega
  rw [h1, h2]
def tailV (ts : List Wd) (m : Nat) (p : Pl) : V := if (p.1, p.2 + m) ∈ allP ts then .int (rk (allP ts) (p.1, p.2 + m)) else .non
def spTails : Sp := fun vs H Q _ => ∃ (x : V) (l : Addr) (ts : List Wd) (m : Nat) (zs : List (Addr × Pl)), vs = [x, .ref l, .int (m : Nat)] ∧ ZL H l zs ∧ zs.map Prod.snd = allP ts ∧ (allP ts).length ≤ 2000 ∧
  ∀ H' L, Same H H' → H' L = some (.lst ((allP ts).map (tailV ts m))) → Q (.ref L) H'
def spOrder (CL : Addr) : Sp := fun vs H Q _ => ∃ (b : Addr) (ts : List Wd), vs = [.ref b] ∧ LibAt CL H b ts ∧ Good ts ∧ ∀ H' l ord, Same H H' → PL H' l ord → IsOrd ts ord → Q (.ref l) H'
section
variable {P : Program} {w : World} {K : PySem.W.Frag} {mg : Str → Option Value} {base : Heap} {CL CM CC : Addr}
abbrev N25 : List Str := ["library", "places", "many", "begins", "number", "place", "text", "at"]
theorem sc25 : FnScope N25 ["library", "places", "many"] (defScope (top 25)) := ⟨rfl, rfl, rfl, by decide +kernel, rfl, by decide +kernel, by decide +kernel⟩
theorem ok_tails (T : Txt K mg CL CM CC) (D : Df K mg "tails_of" (top 25) ["library", "places", "many"]) : Cd P w K mg base 1 "tails_of" spTails := by
  refine D.ok sc25 (fun vs H Q E h => ?_) (fun f cdv A outer s H vs Q E hr h => ?_)
  · obtain ⟨x, l, ts, m, zs, rfl, _⟩ := h
    rfl
  · obtain ⟨x, l, ts, m, zs, rfl, hz, hzs, hlen, k⟩ := h
    have hu := hu_of hr
    refine ⟨_, pss_cons (ps_set (i := 3) sc25.nd rfl (Or.inr rfl) pe_dnewT)
      (pss_cons (ps_for PassesOwn.never rfl (pi_enum (by rfl) T.enumerate (pa_cons (pv 1) pa_nil)) (pg_tup rfl (pgs_cons (pg_name (i := 4) sc25.nd rfl (Or.inl rfl)) (pgs_cons (pg_name (i := 5) sc25.nd rfl (Or.inl rfl)) pgs_nil)))
        (pss_one (ps_dput hu (pv 3) (pv 5) (pv 4) rfl)))
      (pss_one (ps_ret (pe_lc (own := [("text", 6), ("at", 7)]) (g := gTup K 2 (gCons (gName 6) (gCons (gName 7) gNil))) (tt := tYes) rfl sc25.nd (pi_list (pv 1)) (blkOk_by (N := N25) (sc := defScope (top 25)) (by decide +kernel))
          (fun _ _ _ _ _ => pg_tupK (K := K) rfl rfl (pgs_cons (pg_name (i := 6) sc25.nd rfl (Or.inl rfl)) (pgs_cons (pg_name (i := 7) sc25.nd rfl (Or.inl rfl)) pgs_nil))) (fun _ _ _ _ _ => pts_nil)
          (fun _ _ _ _ _ => pe_dget1 hu (pv 3) (pe_tup (pa_cons (pv 6) (pa_cons (pe_op op_add (pv 7) (pv 2)) pa_nil))) ⟨rfl, rfl, rfl, rfl⟩))))), ?_⟩
    intro d hd
    have s0 : Same H (upd H d (.dT [])) := put (Same.refl H) hd
    have hzl : zs.length = (allP ts).length := by rw [← hzs, List.length_map]
    refine ⟨_, rfl, l, _, rfl, SqL.of (s0 _ _ hz.1), for_it (walk_enum (K := K) (a := l) (xs := zs.map fun z => V.ref z.1)) (fun i σ H' => ∃ v1 v2, σ = [some x, some (.ref l), some (.int (m : Nat)), some (.ref d), v1, v2, none, none] ∧ Same H H' ∧ H' d = some (.dT (numsF kQ ((allP ts).take i) 0)))
      ⟨none, none, rfl, s0, upd_same⟩ (fun i σ H' _ ⟨_, _, _, s1, _⟩ => SqL.of (s1 _ _ hz.1)) ?_ ?_⟩
    · rintro i y σ H1 H2 hi ⟨v1, v2, rfl, s1, e1⟩ ⟨a, y1, y2, rfl, n1, rfl, e2, e3⟩
      obtain ⟨z, h1, rfl⟩ := at_map e3
      obtain rfl := Option.some.inj e2
      have hm := List.mem_of_getElem? h1
      have hp : (allP ts)[i]? = some z.2 := by rw [← hzs, List.getElem?_map, h1]; rfl
      have hi' : i < (allP ts).length := (List.getElem?_eq_some_iff.mp hp).1
      refine ⟨_, _, rfl, SqT.of upd_same, rfl, _, _, rfl, _, _, rfl, rfl, ?_⟩
      have s2 : Same H1 (upd H1 a (.tup [.int (i : Nat), .ref z.1])) := put (Same.refl H1) n1
      have hzk : (upd H1 a (.tup [.int (i : Nat), .ref z.1])) z.1 = some (.tup ((kQ z.2).map kV)) := s2 _ _ (s1 _ _ (hz.2 z hm))
      refine ⟨_, rfl, _, rfl, _, rfl, d, _, rfl, DPut.t (k := kQ z.2) (s2 _ _ e1) hzk ?_, ?_⟩
      · rw [numsF_len, List.length_take]
        exact line1 (by omega)
      · refine ⟨_, _, rfl, fun b o e => ?_, ?_⟩
        · rw [upd_ne (ne_of_none e hd)]
          exact s2 _ _ (s1 _ _ e)
        · have hno : z.2 ∉ (allP ts).take i := not_taken (allP_nodup ts) hp
          have e6 : (allP ts).take (i + 1) = (allP ts).take i ++ [z.2] := by rw [List.take_add_one, hp]; rfl
          rw [upd_same, e6, numsF_snoc, putK_new _ (by rw [nums_val kQ_inj, if_neg hno]), List.length_take, Nat.min_eq_left (by omega)]
    · rintro σ H1 ⟨v1, v2, rfl, s1, e1⟩
      rw [List.length_map, hzl, List.take_length] at e1
      refine ⟨_, rfl, l, rfl, ⟨_, SqL.of (s1 _ _ hz.1)⟩, fun L hL => lc_it (walk_list (K := K) (xs := zs.map fun z => V.ref z.1)) (fun i H' => Same H1 H' ∧ H' L = some (.lst (((allP ts).take i).map (tailV ts m)))) ⟨put (Same.refl H1) hL, upd_same⟩ (fun i H' _ ⟨s3, _⟩ => SqL.of (s3 _ _ (s1 _ _ hz.1))) ?_ ?_⟩
      · rintro i y H3 H4 hi ⟨s3, e4⟩ ⟨rfl, hy⟩
        obtain ⟨z, h1, rfl⟩ := at_map hy
        have hm := List.mem_of_getElem? h1
        have hp : (allP ts)[i]? = some z.2 := by rw [← hzs, List.getElem?_map, h1]; rfl
        refine ⟨_, _, rfl, SqT.of (s3 _ _ (s1 _ _ (hz.2 z hm))), rfl, _, _, rfl, _, _, rfl, rfl, rfl, ?_⟩
        refine ⟨_, rfl, d, rfl, .inr ⟨_, .inl (s3 _ _ e1)⟩, _, rfl, _, rfl, _, rfl, _, _, rfl, rfl, by show 2 ≤ sizeLine; decide, fun p hp' => ?_⟩
        have g := DGet.t (H := upd H4 p (.tup [V.int (z.2.1 : Nat), V.int ((z.2.2 : Nat) + (m : Nat))])) (b := p) (k := kQ (z.2.1, z.2.2 + m)) (upd_eq (s3 _ _ e1) hp') upd_same
        rw [nums_val kQ_inj] at g
        refine ⟨_, g, _, upd_eq e4 hp', ?_, put (put s3 (s3.free hp')) hL, ?_⟩
        · rw [List.length_map, List.length_take]
          exact line1 (by omega)
        · rw [upd_same, List.take_add_one, hp, List.map_append]
          refine congrArg (fun v => some (HO.lst (_ ++ [v]))) ?_
          unfold tailV
          by_cases h : (z.2.1, z.2.2 + m) ∈ allP ts
          · rw [if_pos h, if_pos h]; rfl
          · rw [if_neg h, if_neg h]; rfl
      · rintro H3 ⟨s3, e4⟩
        rw [List.length_map, hzl, List.take_length] at e4
        exact k _ _ (s1.trans s3) e4
end
end Ep
end
section
set_option linter.all false
set_option maxRecDepth 100000
/-! EpW5: the walk of order_of. -/
namespace Ep
open PySem PySem.W PySem.Calls PyProof.Rows L2 EP EpR
theorem one_sign {ts : List Wd} {p : Pl} (h : p ∈ allP ts) : ∃ c, (tx ts p.1)[p.2]? = some c ∧ (suf ts p).take 1 = [c] := by
  have h1 := mem_allP.mp h
  refine ⟨(tx ts p.1)[p.2], List.getElem?_eq_getElem h1, ?_⟩
  unfold suf
  rw [List.drop_eq_getElem_cons h1]
  rfl
theorem rk_atI {α : Type} [DecidableEq α] {d : List α} {x : α} {rs : List Int} (h : x ∈ d) (hl : rs.length = d.length) : ∃ (j : Nat) (t : Int), d[j]? = some x ∧ rs[j]? = some t ∧ atI (rs.map V.int) (rk d x) = some (.int t) := by
  obtain ⟨h1, h2⟩ := rk_get h
  have h3 : (rk d x).toNat < rs.length := by rw [hl]; exact (List.getElem?_eq_some_iff.mp h1).1
  refine ⟨_, rs[(rk d x).toNat], h1, List.getElem?_eq_getElem h3, ?_⟩
  have e : ((rk d x).toNat : Int) = rk d x := Int.toNat_of_nonneg h2
  have h4 : atI (rs.map V.int) ((rk d x).toNat : Int) = some (.int rs[(rk d x).toNat]) := atI_nat (by rw [List.getElem?_map, List.getElem?_eq_getElem h3]; rfl)
  exact (congrArg (atI (rs.map V.int)) e).symm.trans h4
theorem takes_len (ts : List Wd) (m : Nat) : (takes ts m).length = (allP ts).length := by unfold takes; rw [List.length_map]
def muO (M : Int) (σ : L2.St) : Nat := match (σ[3]? : Option (Option V)) with
  | some (some (V.int i)) => (M - i).toNat
  | _ => 0
section
variable {P : Program} {w : World} {K : PySem.W.Frag} {mg : Str → Option Value} {base : Heap} {CL CM CC : Addr}
abbrev N26 : List Str := ["library", "places", "ranks", "many", "longest", "tails", "keys", "text", "at", "rank", "tail", "place"]
theorem sc26 : FnScope N26 ["library"] (defScope (top 26)) := ⟨rfl, rfl, rfl, by decide +kernel, rfl, by decide +kernel, by decide +kernel⟩
theorem ok_order (T : Txt K mg CL CM CC) (D : Df K mg "order_of" (top 26) ["library"]) (GA : Cd P w K mg base 1 "all_places" (spAll CL)) (GT : Cd P w K mg base 1 "numbered" spNumT) (GP : Cd P w K mg base 1 "numbered" spNumP) (GL : Cd P w K mg base 1 "tails_of" spTails) : Cd P w K mg base 2 "order_of" (spOrder CL) := by
  refine D.ok sc26 (fun vs H Q E h => ?_) (fun f cdv A outer s H vs Q E hr h => ?_)
  · obtain ⟨b, ts, rfl, _⟩ := h
    rfl
  · obtain ⟨b, ts, rfl, hL, hg, k⟩ := h
    have hr1 : Room 1 _ := hr
    obtain ⟨t, dx, hb, ht⟩ := id hL
    refine ⟨_, pss_cons (ps_set (i := 1) sc26.nd rfl (Or.inl rfl) (pe_cd GA hr1 (by decide) (by rfl) (pa_cons (pv 0) pa_nil)))
      (pss_cons (ps_set (i := 2) sc26.nd rfl (Or.inr rfl) (pe_cd GT hr1 (by decide) (by rfl) (pa_cons (pe_lc (own := [("text", 7), ("at", 8)]) (g := gTup K 2 (gCons (gName 7) (gCons (gName 8) gNil))) (tt := tYes) rfl sc26.nd (pi_list (pv 1)) (blkOk_by (N := N26) (sc := defScope (top 26)) (by decide +kernel))
          (fun _ _ _ _ _ => pg_tupK (K := K) rfl rfl (pgs_cons (pg_name (i := 7) sc26.nd rfl (Or.inl rfl)) (pgs_cons (pg_name (i := 8) sc26.nd rfl (Or.inl rfl)) pgs_nil))) (fun _ _ _ _ _ => pts_nil)
          (fun _ _ _ _ _ => pe_ix ix_str (px_ixT (K := K) rfl (px_fld (K := K) rfl (pv 0) rfl) (pv 7) (fun _ _ => rfl)) (pv 8) (fun _ _ => rfl))) pa_nil)))
      (pss_cons (ps_set (i := 3) sc26.nd rfl (Or.inl rfl) pe_int)
      (pss_cons (ps_set (i := 4) sc26.nd rfl (Or.inl rfl) (pe_callB (cr_max rfl) (by rfl) T.max (by decide +kernel) (pa_cons (pe_op op_cat (pe_lst (pa_cons pe_int pa_nil)) (pe_lc (own := [("text", 7)]) (g := gName 7) (tt := tYes) rfl sc26.nd (pi_tup (pe_fld (pv 0) rfl)) (blkOk_by (N := N26) (sc := defScope (top 26)) (by decide +kernel))
          (fun _ _ _ _ _ => pg_name (i := 7) sc26.nd rfl (Or.inl rfl)) (fun _ _ _ _ _ => pts_nil) (fun _ _ _ _ _ => pe_lens T.len (pv 7)))) pa_nil)))
      (pss_cons (ps_while PassesOwn.never (pt_cmpR op_lt (pv 3) (pv 4) (nomark _))
        (pss_cons (ps_set (i := 5) sc26.nd rfl (Or.inl rfl) (pe_cd GL hr1 (by decide) (by rfl) (pa_cons (pv 0) (pa_cons (pv 1) (pa_cons (pv 3) pa_nil)))))
        (pss_cons (ps_setLc (i := 6) (own := [("rank", 9), ("tail", 10)]) (g := gTup K 2 (gCons (gName 9) (gCons (gName 10) gNil))) (tt := tYes) rfl sc26.nd rfl rfl (sw_true rfl rfl rfl (by decide +kernel)) (pi_zip (by rfl) T.zip (pa_cons (pv 2) (pa_cons (pv 5) pa_nil))) (blkOk_by (N := N26) (sc := defScope (top 26)) (by decide +kernel))
          (fun _ _ _ _ _ => pg_tupK (K := K) rfl rfl (pgs_cons (pg_name (i := 9) sc26.nd rfl (Or.inl rfl)) (pgs_cons (pg_name (i := 10) sc26.nd rfl (Or.inl rfl)) pgs_nil))) (fun _ _ _ _ _ => pts_nil)
          (fun _ _ _ _ _ => pe_tup (pa_cons (pv 9) (pa_cons (pe_ifExp (pt_cmpR op_isN (pv 10) pe_non (nomark _)) (pe_un un_neg pe_int) (px_ixL (K := K) rfl (pv 2) (pv 10) (fun _ _ => rfl))) pa_nil))))
        (pss_cons (ps_set (i := 2) sc26.nd rfl (Or.inr rfl) (pe_cd GP hr1 (by decide) (by rfl) (pa_cons (pv 6) pa_nil)))
        (pss_one (ps_set (i := 3) sc26.nd rfl (Or.inl rfl) (pe_op op_mul pe_int (pv 3)))))))
      )
      (pss_one (ps_ret (pe_lc (own := [("rank", 9), ("place", 11)]) (g := gTup K 2 (gCons (gName 9) (gCons (gName 11) gNil))) (tt := tYes) rfl sc26.nd (pi_list (pe_sortZ rfl hr.units (by rfl) T.sorted (by rfl) T.zip (pa_cons (pv 2) (pa_cons (pv 1) pa_nil)))) (blkOk_by (N := N26) (sc := defScope (top 26)) (by decide +kernel))
          (fun _ _ _ _ _ => pg_tupK (K := K) rfl rfl (pgs_cons (pg_name (i := 9) sc26.nd rfl (Or.inl rfl)) (pgs_cons (pg_name (i := 11) sc26.nd rfl (Or.inl rfl)) pgs_nil))) (fun _ _ _ _ _ => pts_nil) (fun _ _ _ _ _ => pv 11)))))))), ?_⟩
    -- places; the signs
    refine ⟨_, rfl, b, ts, rfl, hL, hg, fun H1 l s1 ⟨zs, hz, hzs⟩ => ?_⟩
    have hzl : zs.length = (allP ts).length := by rw [← hzs, List.length_map]
    have hal := hg.all
    have hb1 := s1 _ _ hb
    have ht1 : H1 t = some (.tup (ts.map VS)) := s1 _ _ ht
    refine ⟨_, rfl, l, rfl, ⟨_, SqL.of hz.1⟩, fun R0 hR0 => lc_it (walk_list (K := K) (xs := zs.map fun z => V.ref z.1)) (fun i H' => Same H1 H' ∧ H' R0 = some (.lst (((takes ts 1).take i).map VS))) ⟨put (Same.refl H1) hR0, upd_same⟩ (fun i H' _ ⟨s3, _⟩ => SqL.of (s3 _ _ hz.1)) ?_ ?_⟩
    · rintro i y H3 H4 hi ⟨s3, e4⟩ ⟨rfl, hy⟩
      obtain ⟨z, h1, rfl⟩ := at_map hy
      have hm := List.mem_of_getElem? h1
      have hp : (allP ts)[i]? = some z.2 := by rw [← hzs, List.getElem?_map, h1]; rfl
      have hpm := List.mem_of_getElem? hp
      obtain ⟨c, hc, ec⟩ := one_sign hpm
      have hq : ts[z.2.1]? = some (tx ts z.2.1) := by
        have : z.2.1 < ts.length := by
          refine Nat.lt_of_not_le fun q => ?_
          rw [tx_out q] at hc
          simp at hc
        rw [List.getElem?_eq_getElem this, tx_of (List.getElem?_eq_getElem this)]
      refine ⟨_, _, rfl, SqT.of (s3 _ _ (hz.2 z hm)), rfl, _, _, rfl, _, _, rfl, rfl, rfl, ?_⟩
      refine ⟨_, rfl, b, CL, dx, _, _, rfl, s3 _ _ hb1, T.cL, T.nT, lk_one, _, rfl, t, _, _, _, rfl, rfl, SqT.of (s3 _ _ ht1), atI_nat (j := z.2.1) (by rw [List.getElem?_map, hq]; rfl), _, rfl, _, _, c, rfl, rfl, by rw [S_len]; exact line2 (Nat.le_trans (hg.tx _) (by decide)), atI_nat (j := z.2.2) hc, _, e4, ?_, put s3 hR0, ?_⟩
      · rw [List.length_map, List.length_take, takes_len]
        exact line1 (by omega)
      · rw [upd_same, List.take_add_one, takes_at hp, ec, List.map_append]
        rfl
    rintro H2 ⟨s2, e2⟩
    rw [List.length_map, hzl, List.take_of_length_le (by rw [takes_len]; exact Nat.le_refl _)] at e2
    refine ⟨R0, takes ts 1, rfl, e2, by rw [takes_len]; exact hal, fun H3 r rs s3 R3 e3 => ?_⟩
    have s13 : Same H1 H3 := s2.trans s3
    -- longest
    refine ⟨by decide, fun q0 hq0 => ?_⟩
    have s4 : Same H3 (upd H3 q0 (.lst [.int 0])) := put (Same.refl H3) hq0
    refine ⟨_, rfl, b, CL, dx, _, _, rfl, s4 _ _ (s13 _ _ hb1), T.cL, T.nT, lk_one, t, rfl, ⟨_, SqT.of (s4 _ _ (s13 _ _ ht1))⟩, fun L hLn => lc_it (walk_tup (xs := ts.map VS)) (fun i H' => Same (upd H3 q0 (.lst [.int 0])) H' ∧ H' L = some (.lst (((ts.take i).map fun x => (x.length : Int)).map V.int)))
      ⟨put (Same.refl _) hLn, upd_same⟩ (fun i H' _ ⟨s5, _⟩ => SqT.of (s5 _ _ (s4 _ _ (s13 _ _ ht1)))) ?_ ?_⟩
    · rintro i x H5 H6 hi ⟨s5, e5⟩ ⟨rfl, hx⟩
      obtain ⟨t', h1, rfl⟩ := at_map hx
      have hm := List.mem_of_getElem? h1
      refine ⟨rfl, _, rfl, _, rfl, by rw [S_len]; exact line2 (Nat.le_trans (hg.text hm) (by decide)), _, e5, ?_, put s5 hLn, ?_⟩
      · rw [List.length_map, List.length_map, List.length_take]
        have := hg.few
        exact line1 (by omega)
      · rw [upd_same, List.take_add_one, h1, S_len, List.map_append, List.map_append]
        rfl
    rintro H5 ⟨s5, e5⟩
    rw [List.length_map, List.take_length] at e5
    refine ⟨q0, L, _, _, rfl, rfl, s5 _ _ upd_same, e5, ?_, fun p0 hp0 => ?_⟩
    · rw [List.length_map, List.length_map]
      have := hg.few
      exact line2 (by show 1 + ts.length ≤ _; omega)
    refine ⟨p0, 0 :: ts.map fun x => (x.length : Int), rfl, SqL.of (by rw [upd_same]; rfl), by simp, fun M hM hle => ?_⟩
    have s6 : Same H3 (upd H5 p0 (.lst ([V.int 0] ++ (ts.map fun x => (x.length : Int)).map V.int))) := put (s4.trans s5) ((s4.trans s5).free hp0)
    have hMt : ∀ i, ((tx ts i).length : Int) ≤ M := fun i => by
      unfold EP.tx
      rw [List.getD_eq_getElem?_getD]
      cases e : ts[i]? with
      | none => exact hle 0 List.mem_cons_self
      | some t => exact hle _ (List.mem_cons_of_mem _ (List.mem_map_of_mem (f := fun x : Wd => (x.length : Int)) (List.mem_of_getElem? e)))
    have R1 : ∀ m : Nat, ∀ i, M ≤ m → (tx ts i).length ≤ m := fun m i h => by have := hMt i; omega
    refine while_by (fun σ H' => ∃ (r : Addr) (rs : List Int) (m : Nat) (v5 v6 : Option V), σ = [some (.ref b), some (.ref l), some (.ref r), some (.int (m : Nat)), some (.int M), v5, v6, none, none, none, none, none] ∧ Same H1 H' ∧ H' r = some (.lst (rs.map V.int)) ∧ IsRank (fun x y : Wd => x < y) (takes ts m) rs ∧ 0 < m)
      (fun σ _ => muO M σ) ⟨r, rs, 1, none, none, rfl, s13.trans s6, s6 _ _ e3, R3, Nat.one_pos⟩ ?_ (fun σ H Q Q' hq ⟨v, h1, u, h2, i, j, e1, e2, k, e3, q⟩ => ⟨v, h1, u, h2, i, j, e1, e2, k, e3, hq _ _ q⟩)
    rintro σ H6 ⟨r, rs, m, v5, v6, rfl, s7, e7, R7, hm0⟩
    have hrl : rs.length = (allP ts).length := by rw [R7.len, takes_len]
    refine ⟨_, rfl, _, rfl, _, _, rfl, rfl, _, rfl, ?_⟩
    refine ite2 (fun hlt => ?_) (fun hge => ?_)
    · have hlt : (m : Int) < M := of_decide_eq_true hlt
      refine ⟨_, rfl, _, rfl, _, rfl, _, l, ts, m, zs, rfl, hz.same s7, hzs, hal, fun H8 tl s8 e8 => ?_⟩
      refine ⟨_, rfl, _, rfl, r, tl, _, _, rfl, SqL.of (s8 _ _ e7), SqL.of e8, fun Dl hD => lc_it (walk_zip (K := K) (a := r) (b := tl) (xs := rs.map V.int) (ys := (allP ts).map (tailV ts m)) (n := (allP ts).length) (by rw [List.length_map, List.length_map, hrl, Nat.min_self]))
        (fun i H' => Same H8 H' ∧ ∃ ws : List (Addr × Int × Int), H' Dl = some (.lst (ws.map fun z => V.ref z.1)) ∧ (∀ z ∈ ws, H' z.1 = some (IPO z.2)) ∧ ws.length = i ∧ ∀ (j : Nat) p z, (allP ts)[j]? = some p → ws[j]? = some z → rs[j]? = some z.2.1 ∧ IsTail ts rs m p z.2.2)
        ⟨put (Same.refl _) hD, [], upd_same, (fun z hz => nomatch hz), rfl, (fun j p z _ h => by simp at h)⟩ (fun i H' _ ⟨s9, _⟩ => ⟨SqL.of (s9 _ _ (s8 _ _ e7)), SqL.of (s9 _ _ e8)⟩) ?_ ?_⟩
      · rintro i v H9 H10 hi ⟨s9, ws, e9, h9, l9, t9⟩ ⟨a, x, y, rfl, n1, rfl, hx, hy⟩
        obtain ⟨u, hu, rfl⟩ := at_map hx
        obtain ⟨p, hp, rfl⟩ := at_map hy
        have s10 : Same H9 (upd H9 a (.tup [V.int u, tailV ts m p])) := put (Same.refl _) n1
        refine ⟨_, _, rfl, SqT.of upd_same, rfl, _, _, rfl, _, _, rfl, rfl, rfl, ?_⟩
        refine ⟨_, rfl, _, rfl, rfl, _, rfl, ?_⟩
        have goal : ∀ tv : Int, IsTail ts rs m p tv → [V.int u, V.int tv].length ≤ sizeLine ∧ ∀ q, (upd H9 a (.tup [V.int u, tailV ts m p])) q = none → ∃ acc, (upd (upd H9 a (.tup [V.int u, tailV ts m p])) q (.tup [V.int u, V.int tv])) Dl = some (.lst acc) ∧ acc.length < sizeLine ∧
            (Same H8 (upd (upd (upd H9 a (.tup [V.int u, tailV ts m p])) q (.tup [V.int u, V.int tv])) Dl (.lst (acc ++ [V.ref q]))) ∧ ∃ ws : List (Addr × Int × Int), (upd (upd (upd H9 a (.tup [V.int u, tailV ts m p])) q (.tup [V.int u, V.int tv])) Dl (.lst (acc ++ [V.ref q]))) Dl = some (.lst (ws.map fun z => V.ref z.1)) ∧
              (∀ z ∈ ws, (upd (upd (upd H9 a (.tup [V.int u, tailV ts m p])) q (.tup [V.int u, V.int tv])) Dl (.lst (acc ++ [V.ref q]))) z.1 = some (IPO z.2)) ∧ ws.length = i + 1 ∧ ∀ (j : Nat) p z, (allP ts)[j]? = some p → ws[j]? = some z → rs[j]? = some z.2.1 ∧ IsTail ts rs m p z.2.2) := fun tv htv => by
          refine ⟨by show 2 ≤ sizeLine; decide, fun q hq => ?_⟩
          have hDl := s10 _ _ e9
          refine ⟨_, upd_eq hDl hq, ?_, put (put (s9.trans s10) ((s9.trans s10).free hq)) hD, ws ++ [(q, (u, tv))], ?_, fun z hz => ?_, ?_, fun j p' z hp' hz => ?_⟩
          · rw [List.length_map, l9]
            exact line1 (by omega)
          · rw [upd_same, List.map_append]
            rfl
          · rcases List.mem_append.mp hz with hz | hz
            · have g := s10 _ _ (h9 z hz)
              rw [upd_ne (ne_of g hDl (by intro q; cases q)), upd_ne (ne_of_none g hq)]
              exact g
            · have e := List.mem_singleton.mp hz
              subst e
              show upd _ _ _ q = _
              rw [upd_ne (ne_of_none hDl hq).symm, upd_same]
              rfl
          · rw [List.length_append, l9]
            rfl
          · rcases Nat.lt_trichotomy j i with hj | hj | hj
            · rw [List.getElem?_append_left (by omega)] at hz
              exact t9 j p' z hp' hz
            · subst hj
              rw [← l9, List.getElem?_concat_length] at hz
              obtain rfl := Option.some.inj hz
              rw [hp] at hp'
              obtain rfl := Option.some.inj hp'
              exact ⟨hu, htv⟩
            · rw [List.getElem?_eq_none (by rw [List.length_append, l9]; simp; omega)] at hz
              cases hz
        unfold tailV at goal ⊢
        by_cases hin : (p.1, p.2 + m) ∈ allP ts
        · simp only [if_pos hin] at goal ⊢
          refine iteF ?_
          obtain ⟨j, tv, j1, j2, j3⟩ := rk_atI hin hrl
          refine ⟨_, rfl, _, rfl, r, _, _, _, rfl, rfl, SqL.of ?_, j3, goal tv (.inl ⟨j, j1, j2⟩)⟩
          have := s10 _ _ (s9 _ _ (s8 _ _ e7))
          unfold tailV at this
          simp only [if_pos hin] at this
          exact this
        · simp only [if_neg hin] at goal ⊢
          refine iteT ?_
          exact ⟨_, rfl, goal (-1) (.inr ⟨hin, rfl⟩)⟩
      · rintro H9 ⟨s9, ws, e9, h9, l9, t9⟩
        refine ⟨_, rfl, Dl, ws, rfl, e9, h9, by omega, fun H10 r' rs' s10 R10 e10 => ?_⟩
        refine ⟨_, rfl, _, _, rfl, rfl, .inl ⟨by decide, by decide⟩, ?_⟩
        refine ⟨⟨r', rs', 2 * m, _, _, rfl, ((s7.trans s8).trans s9).trans s10, e10, ?_, by omega⟩, ?_⟩
        · refine round_rank (keys := ws.map Prod.snd) hm0 R7 (by rw [List.length_map, l9]) (fun j p k hp hk => ?_) R10
          obtain ⟨z, hz', rfl⟩ := at_map hk
          exact t9 j p z hp hz'
        · show (M - (2 * (m : Int))).toNat < (M - (m : Int)).toNat
          omega
    · have hge : ¬ (m : Int) < M := fun z => hge (decide_eq_true z)
      have hz7 := hz.same s7
      refine ⟨_, rfl, _, rfl, Int × (Addr × Pl), (fun c => .int c.1), (fun c => .ref c.2.1), (fun c => .int c.1), (fun c => .tuple [.int (c.2.2.1 : Nat), .int (c.2.2.2 : Nat)]), rs.zip zs, r, l, rfl, ?_, ?_, fun c hc => ⟨.int _, .pair (SqT.of (hz7.2 c.2 (List.of_mem_zip hc).2)) (.int _) (.int _)⟩,
        AllAlike.of fun _ _ => by simp [alike, alikeAll], fun _ _ => by simp [PyData.depth, PyData.depthAll], fun H8 p ys s8 hp perm srt e8 h8 => ?_⟩
      · have : (rs.zip zs).map (fun c => V.int c.1) = rs.map V.int := by
          have h := List.map_fst_zip (l₁ := rs) (l₂ := zs) (by omega)
          rw [← h, List.map_map]
          rw [h]; rfl
        rw [this]
        exact SqL.of e7
      · have : (rs.zip zs).map (fun c => V.ref c.2.1) = zs.map (fun z => V.ref z.1) := by
          have h := List.map_snd_zip (l₁ := rs) (l₂ := zs) (by omega)
          rw [← h, List.map_map]
          rw [h]; rfl
        rw [this]
        exact SqL.of hz7.1
      · refine ⟨p, rfl, ⟨_, SqL.of e8⟩, fun L hL2 => lc_it (walk_list (K := K) (xs := ys.map fun z => V.ref z.1)) (fun i H' => Same H8 H' ∧ H' L = some (.lst ((ys.take i).map fun z => V.ref z.2.2.1))) ⟨put (Same.refl H8) hL2, upd_same⟩ (fun i H' _ ⟨s9, _⟩ => SqL.of (s9 _ _ e8)) ?_ ?_⟩
        · rintro i y H9 H10 hi ⟨s9, e9⟩ ⟨rfl, hy⟩
          obtain ⟨z, h1, rfl⟩ := at_map hy
          have hm := List.mem_of_getElem? h1
          refine ⟨_, _, rfl, SqT.of (s9 _ _ (h8 z hm)), rfl, _, _, rfl, _, _, rfl, rfl, rfl, ?_⟩
          refine ⟨_, rfl, _, e9, ?_, put s9 hL2, ?_⟩
          · have hyl : ys.length = (rs.zip zs).length := by have := perm.length_eq; rw [List.length_map] at this; exact this
            rw [List.length_zip] at hyl
            rw [List.length_map, List.length_take]
            exact line1 (by omega)
          · rw [upd_same, List.take_add_one, h1, List.map_append]
            rfl
        · rintro H9 ⟨s9, e9⟩
          rw [List.length_map, List.take_length] at e9
          have s19 : Same H1 H9 := (s7.trans s8).trans s9
          refine k H9 L (((ys.map Prod.snd).map fun c => (c.1, c.2.2)).map Prod.snd) (s1.trans s19) ⟨ys.map fun z => z.2.2, ⟨?_, fun z hz' => ?_⟩, ?_⟩ ?_
          · rw [e9, List.map_map]
            rfl
          · obtain ⟨y, hy, rfl⟩ := List.mem_map.mp hz'
            have h1 : y.2 ∈ rs.zip zs := perm.mem_iff.mp (List.mem_map_of_mem hy)
            exact s19 _ _ (hz.2 _ (List.of_mem_zip h1).2)
          · rw [List.map_map, List.map_map, List.map_map]
            rfl
          · refine ord_of R7 (fun i => R1 m i (by omega)) ?_ ?_
            · have h1 := perm.map fun c : Int × (Addr × Pl) => (c.1, c.2.2)
              have h2 : (rs.zip zs).map (fun c : Int × (Addr × Pl) => (c.1, c.2.2)) = rs.zip (allP ts) := by
                rw [← hzs, List.zip_map_right]
                rfl
              rw [h2] at h1
              exact h1
            · rw [List.pairwise_map]
              exact srt.imp fun {a b} h => le_ip h
end
end Ep
end
section
set_option linter.all false
set_option maxRecDepth 100000
/-! EpW6: the walks of common_of, common_at, lengths_of. -/
namespace Ep
open PySem PySem.W PySem.Calls PyProof.Rows L2 EP EpR
theorem in_few {ts : List Wd} {p : Pl} (h : p ∈ allP ts) : p.1 < ts.length := by
  have h1 := mem_allP.mp h
  refine Nat.lt_of_not_le fun q => ?_
  rw [tx_out q] at h1
  simp at h1
theorem ixN_nat {n j : Nat} (h : j < n) : ixN n (j : Int) = some j := by
  unfold ixN
  rw [if_pos (Int.natCast_nonneg _), if_pos (by omega), Int.toNat_natCast]
theorem suf_le {ts : List Wd} (G : Good ts) (p : Pl) : (suf ts p).length ≤ 2000 := by
  rw [suf_len]
  have := G.tx p.1
  omega
def NL (cs : List Nat) : HO := .lst (cs.map fun c : Nat => V.int (c : Nat))
theorem one_dec {c d : Nat} : decide (V.str ⟨#[c]⟩ = V.str ⟨#[d]⟩) = decide (c = d) := by
  rw [decide_eq_decide]
  constructor
  · intro h
    injection h with h
    injection h with h
    injection h with h
    injection h
  · rintro rfl
    rfl
def spCommon : Sp := fun vs H Q _ => ∃ x y : Wd, vs = [VS x, VS y] ∧ x.length ≤ 2000 ∧ y.length ≤ 2000 ∧ Q (.int (lcp x y : Nat)) H
def spComAt (CL : Addr) : Sp := fun vs H Q _ => ∃ (b p q : Addr) (ts : List Wd) (x y : Pl), vs = [.ref b, .ref p, .ref q] ∧ LibAt CL H b ts ∧ Good ts ∧ H p = some (PlO x) ∧ H q = some (PlO y) ∧ x ∈ allP ts ∧ y ∈ allP ts ∧ Q (.int (lcp (suf ts x) (suf ts y) : Nat)) H
def spLens (CL : Addr) : Sp := fun vs H Q _ => ∃ (b l : Addr) (ts : List Wd) (ord : List Pl), vs = [.ref b, .ref l] ∧ LibAt CL H b ts ∧ Good ts ∧ PL H l ord ∧ IsOrd ts ord ∧ ∀ H' L com, Same H H' → H' L = some (NL com) → IsCom ts ord com → Q (.ref L) H'
def muC (M : Int) (i : Nat) (σ : L2.St) : Nat := match (σ[i]? : Option (Option V)) with
  | some (some (V.int j)) => (M - j).toNat
  | _ => 0
section
variable {P : Program} {w : World} {K : PySem.W.Frag} {mg : Str → Option Value} {base : Heap} {CL CM CC : Addr}
abbrev N27 : List Str := ["one", "other", "most", "many"]
theorem sc27 : FnScope N27 ["one", "other"] (defScope (top 27)) := ⟨rfl, rfl, rfl, by decide +kernel, rfl, by decide +kernel, by decide +kernel⟩
theorem ok_common (T : Txt K mg CL CM CC) (D : Df K mg "common_of" (top 27) ["one", "other"]) : Cd P w K mg base 1 "common_of" spCommon := by
  refine D.ok sc27 (fun vs H Q E h => ?_) (fun f cdv A outer s H vs Q E hr h => ?_)
  · obtain ⟨x, y, rfl, _⟩ := h
    rfl
  · obtain ⟨x, y, rfl, hx, hy, k⟩ := h
    refine ⟨_, pss_cons (ps_set (i := 2) sc27.nd rfl (Or.inl rfl) (pe_callB (call_min2 rfl) (by rfl) T.min (by decide +kernel) (pa_cons (pe_lens T.len (pv 0)) (pa_cons (pe_lens T.len (pv 1)) pa_nil))))
      (pss_cons (ps_set (i := 3) sc27.nd rfl (Or.inl rfl) pe_int)
      (pss_cons (ps_while PassesOwn.never (PW.pt (pw_and (pt_cmpR op_lt (pv 3) (pv 2) (nomark _)) (pw_and1 (pt_cmpR op_eq (pe_ix ix_str (pv 0) (pv 3) (fun _ _ => rfl)) (pe_ix ix_str (pv 1) (pv 3) (fun _ _ => rfl)) (nomark _)))))
        (pss_one (ps_aug (i := 3) sc27.nd rfl (Or.inl rfl) pe_int ip_add)))
      (pss_one (ps_ret (pv 3))))), ?_⟩
    have lx : (S x).length ≤ sizeLine := by rw [S_len]; exact line2 (by omega)
    have ly : (S y).length ≤ sizeLine := by rw [S_len]; exact line2 (by omega)
    refine ⟨_, rfl, _, rfl, lx, _, rfl, _, rfl, ly, _, _, rfl, ?_⟩
    have em : (if ((S y).length : Int) < ((S x).length : Int) then ((S y).length : Int) else ((S x).length : Int)) = ((min x.length y.length : Nat) : Int) := by
      rw [S_len, S_len]
      by_cases h : (y.length : Int) < (x.length : Int)
      · rw [if_pos h]; omega
      · rw [if_neg h]; omega
    rw [em]
    refine while_by (fun σ H' => H' = H ∧ ∃ m : Nat, σ = [some (VS x), some (VS y), some (.int (min x.length y.length : Nat)), some (.int (m : Nat))] ∧ m ≤ min x.length y.length ∧ ∀ i, i < m → x[i]? = y[i]?)
      (fun σ _ => muC (min x.length y.length : Nat) 3 σ) ⟨rfl, 0, rfl, Nat.zero_le _, fun i hi => absurd hi (Nat.not_lt_zero _)⟩ ?_ ?_
    · rintro σ H1 ⟨rfl, m, rfl, hm, he⟩
      refine ⟨_, rfl, _, rfl, _, _, rfl, rfl, _, rfl, ?_⟩
      refine ite2 (fun hlt => ?_) (fun hge => ?_)
      · have hlt : (m : Int) < (min x.length y.length : Nat) := of_decide_eq_true hlt
        have h1 : m < x.length := by omega
        have h2 : m < y.length := by omega
        refine ⟨_, rfl, _, rfl, _, _, x[m], rfl, rfl, lx, atI_nat (j := m) (List.getElem?_eq_getElem h1), _, rfl, _, rfl, _, _, y[m], rfl, rfl, ly, atI_nat (j := m) (List.getElem?_eq_getElem h2), rfl, _, rfl, ?_⟩
        rw [one_dec]
        refine ite2 (fun q => ?_) (fun q => ?_)
        · have q := of_decide_eq_true q
          refine ⟨_, rfl, _, _, rfl, rfl, ⟨rfl, m + 1, rfl, by omega, fun i hi => ?_⟩, ?_⟩
          · rcases Nat.lt_or_eq_of_le (Nat.le_of_lt_succ hi) with z | z
            · exact he i z
            · subst z
              rw [List.getElem?_eq_getElem h1, List.getElem?_eq_getElem h2, q]
          · show (((min x.length y.length : Nat) : Int) - ((m : Int) + 1)).toNat < (((min x.length y.length : Nat) : Int) - (m : Int)).toNat
            omega
        · have q : ¬ x[m] = y[m] := fun z => q (decide_eq_true z)
          refine ⟨_, rfl, ?_⟩
          show Q (.int (m : Nat)) H1
          rw [← lcp_at x y m (by omega) (by omega) he (.inr (.inr (by rw [List.getElem?_eq_getElem h1, List.getElem?_eq_getElem h2]; simpa using q)))]
          exact k
      · have hge : ¬ (m : Int) < (min x.length y.length : Nat) := fun z => hge (decide_eq_true z)
        refine ⟨_, rfl, ?_⟩
        show Q (.int (m : Nat)) H1
        rw [← lcp_at x y m (by omega) (by omega) he (by omega)]
        exact k
    · intro σ H Q Q' hq h
      obtain ⟨v, h1, u, h2, i, j, e1, e2, k, e3, q⟩ := h
      refine ⟨v, h1, u, h2, i, j, e1, e2, k, e3, ?_⟩
      cases k with
      | false => exact hq _ _ q
      | true =>
        obtain ⟨v, h1, u, h2, z, i, c, e1, e2, e3, e4, v', h1', u', h2', z', i', c', e1', e2', e3', e4', e5, k, e6, q⟩ := q
        exact ⟨v, h1, u, h2, z, i, c, e1, e2, e3, e4, v', h1', u', h2', z', i', c', e1', e2', e3', e4', e5, k, e6, hq _ _ q⟩
theorem sc28 : FnScope ["library", "one", "other"] ["library", "one", "other"] (defScope (top 28)) := ⟨rfl, rfl, rfl, by decide +kernel, rfl, by decide +kernel, by decide +kernel⟩
theorem ok_comat (T : Txt K mg CL CM CC) (D : Df K mg "common_at" (top 28) ["library", "one", "other"]) (GC : Cd P w K mg base 1 "common_of" spCommon) (GE : Cd P w K mg base 1 "ending_at" (spEnd CL)) : Cd P w K mg base 2 "common_at" (spComAt CL) := by
  refine D.ok sc28 (fun vs H Q E h => ?_) (fun f cdv A outer s H vs Q E hr h => ?_)
  · obtain ⟨b, p, q, ts, x, y, rfl, _⟩ := h
    rfl
  · obtain ⟨b, p, q, ts, x, y, rfl, hL, hg, hp, hq, hx, hy, k⟩ := h
    refine ⟨_, pss_one (ps_ret (pe_cd GC hr (by decide) (by rfl) (pa_cons (pe_cd GE hr (by decide) (by rfl) (pa_cons (pv 0) (pa_cons (pv 1) pa_nil))) (pa_cons (pe_cd GE hr (by decide) (by rfl) (pa_cons (pv 0) (pa_cons (pv 2) pa_nil))) pa_nil)))), ?_⟩
    exact ⟨_, rfl, _, rfl, b, p, ts, x, rfl, hL, hg, hp, in_few hx, _, rfl, _, rfl, b, q, ts, y, rfl, hL, hg, hq, in_few hy, _, _, rfl, suf_le hg _, suf_le hg _, k⟩
abbrev N29 : List Str := ["library", "order", "found", "at"]
theorem sc29 : FnScope N29 ["library", "order"] (defScope (top 29)) := ⟨rfl, rfl, rfl, by decide +kernel, rfl, by decide +kernel, by decide +kernel⟩
theorem ok_lens (T : Txt K mg CL CM CC) (D : Df K mg "lengths_of" (top 29) ["library", "order"]) (GC : Cd P w K mg base 2 "common_at" (spComAt CL)) : Cd P w K mg base 3 "lengths_of" (spLens CL) := by
  refine D.ok sc29 (fun vs H Q E h => ?_) (fun f cdv A outer s H vs Q E hr h => ?_)
  · obtain ⟨b, l, ts, ord, rfl, _⟩ := h
    rfl
  · obtain ⟨b, l, ts, ord, rfl, hL, hg, ⟨zs, hz, hzs⟩, O, k⟩ := h
    have hol : ord.length ≤ 2000 := by rw [O.len]; exact hg.all
    have hzl : zs.length = ord.length := by rw [← hzs, List.length_map]
    refine ⟨_, pss_cons (ps_set (i := 2) sc29.nd rfl (Or.inl rfl) (pe_op op_rep (pe_lst (pa_cons pe_int pa_nil)) (pe_len T.len (pv 1))))
      (pss_cons (ps_for PassesOwn.never rfl (pi_range2 (by rfl) T.range (pa_cons pe_int (pa_cons (pe_len T.len (pv 1)) pa_nil))) (pg_name (i := 3) sc29.nd rfl (Or.inl rfl))
        (pss_one (ps_asg (pe_cd GC hr (by decide) (by rfl) (pa_cons (pv 0) (pa_cons (pe_ix ix_list (pv 1) (pe_op op_sub (pv 3) pe_int) (fun _ _ => rfl)) (pa_cons (pe_ix ix_list (pv 1) (pv 3) (fun _ _ => rfl)) pa_nil)))) (pg_sub (pv 2) (pv 3) set_list (fun _ => rfl)))))
      (pss_one (ps_ret (pv 2)))), ?_⟩
    refine ⟨by decide, fun q0 hq0 => ?_⟩
    have s0 : Same H (upd H q0 (.lst [.int 0])) := put (Same.refl H) hq0
    refine ⟨_, rfl, _, _, rfl, .inl ⟨_, SqL.of (s0 _ _ hz.1), rfl⟩, q0, _, _, rfl, rfl, upd_same, by omega, ?_, ?_, fun F hF => ?_⟩
    · rw [List.length_map]; omega
    · rw [List.length_map, Int.toNat_natCast]; show 1 * _ ≤ _; exact line2 (by omega)
    have e0 : (List.replicate ((zs.map fun z => V.ref z.1).length : Int).toNat [V.int 0]).flatten = (List.replicate ord.length 0).map fun c : Nat => V.int (c : Nat) := by
      rw [Int.toNat_natCast, List.length_map, hzl]
      generalize ord.length = n
      induction n with
      | zero => rfl
      | succ n ih =>
        rw [List.replicate_succ, List.flatten_cons, ih, List.replicate_succ, List.map_cons]
        rfl
    have s1 : Same H (upd (upd H q0 (.lst [.int 0])) F (.lst (List.replicate ((zs.map fun z => V.ref z.1).length : Int).toNat [V.int 0]).flatten)) := put s0 (s0.free hF)
    have hF0 : H F = none := s0.free hF
    refine ⟨_, rfl, _, _, rfl, .inl ⟨_, SqL.of (s1 _ _ hz.1), rfl⟩, 1, _, rfl, ?_, for_range (lo := 1) (n := (((zs.map fun z => V.ref z.1).length : Int) - 1).toNat) (fun i σ H' => ∃ (v : Option V) (cs : List Nat), σ = [some (.ref b), some (.ref l), some (.ref F), v] ∧ Same H H' ∧ H' F = some (NL cs) ∧ cs.length = ord.length ∧ (∀ c, cs[0]? = some c → c = 0) ∧
        ∀ j, j < i → ∀ p q, ord[j]? = some p → ord[j + 1]? = some q → cs[j + 1]? = some (lcp (suf ts p) (suf ts q))) ⟨none, List.replicate ord.length 0, rfl, s1, ?_, by rw [List.length_replicate], ?_, fun j hj => absurd hj (Nat.not_lt_zero _)⟩ ?_ ?_⟩
    · rw [List.length_map]; omega
    · rw [upd_same, e0]; rfl
    · intro c hc
      rw [List.getElem?_replicate] at hc
      by_cases h : 0 < ord.length
      · rw [if_pos h] at hc; exact (Option.some.inj hc).symm
      · rw [if_neg h] at hc; cases hc
    · rintro i σ H1 hi ⟨v, cs, rfl, s2, e2, l2, z2, t2⟩
      rw [List.length_map] at hi
      have h1 : i < ord.length := by omega
      have h2 : i + 1 < ord.length := by omega
      have a1 : zs[i]? = some (zs[i]'(by omega)) := List.getElem?_eq_getElem (by omega)
      have a2 : zs[i + 1]? = some (zs[i + 1]'(by omega)) := List.getElem?_eq_getElem (by omega)
      generalize zs[i]'(by omega) = x at a1
      generalize zs[i + 1]'(by omega) = y at a2
      have o1 : ord[i]? = some x.2 := by rw [← hzs, List.getElem?_map, a1]; rfl
      have o2 : ord[i + 1]? = some y.2 := by rw [← hzs, List.getElem?_map, a2]; rfl
      have b1 : atI (zs.map fun z => V.ref z.1) ((1 : Int) + (i : Nat) - 1) = some (.ref x.1) := by
        rw [show (1 : Int) + (i : Nat) - 1 = (i : Nat) by omega]
        exact atI_nat (by rw [List.getElem?_map, a1]; rfl)
      have b2 : atI (zs.map fun z => V.ref z.1) ((1 : Int) + (i : Nat)) = some (.ref y.1) := by
        rw [show (1 : Int) + (i : Nat) = ((i + 1 : Nat) : Int) by omega]
        exact atI_nat (by rw [List.getElem?_map, a2]; rfl)
      have hz2 := hz.same s2
      refine ⟨_, rfl, _, rfl, _, rfl, _, _, rfl, rfl, l, _, _, _, rfl, rfl, SqL.of hz2.1, b1, _, rfl, _, rfl, l, _, _, _, rfl, rfl, SqL.of hz2.1, b2, ?_⟩
      refine ⟨b, x.1, y.1, ts, x.2, y.2, rfl, hL.same s2, hg, hz2.2 x (List.mem_of_getElem? a1), hz2.2 y (List.mem_of_getElem? a2), O.at o1, O.at o2, ?_⟩
      refine ⟨_, rfl, _, rfl, F, _, _, i + 1, rfl, rfl, e2, ?_, ?_⟩
      · rw [List.length_map, l2, show (1 : Int) + (i : Nat) = ((i + 1 : Nat) : Int) by omega]
        exact ixN_nat h2
      · refine ⟨_, cs.set (i + 1) (lcp (suf ts x.2) (suf ts y.2)), rfl, fun c o e => ?_, ?_, by rw [List.length_set, l2], fun c hc => ?_, fun j hj p q hp hq => ?_⟩
        · rw [upd_ne (ne_of_none e hF0)]
          exact s2 _ _ e
        · rw [upd_same]
          unfold NL
          rw [List.map_set]
        · rw [List.getElem?_set_ne (by omega)] at hc
          exact z2 c hc
        · rcases Nat.lt_or_eq_of_le (Nat.le_of_lt_succ hj) with z | z
          · rw [List.getElem?_set_ne (by omega)]
            exact t2 j z p q hp hq
          · subst z
            rw [o1] at hp
            rw [o2] at hq
            obtain rfl := Option.some.inj hp
            obtain rfl := Option.some.inj hq
            rw [List.getElem?_set_self (by omega)]
    · rintro σ H1 ⟨v, cs, rfl, s2, e2, l2, z2, t2⟩
      rw [List.length_map, hzl] at t2
      refine ⟨_, rfl, k _ _ _ s2 e2 ⟨l2, z2, fun i p q hp hq => t2 i ?_ p q hp hq⟩⟩
      have := (List.getElem?_eq_some_iff.mp hq).1
      omega
end
end Ep
end
section
set_option linter.all false
set_option maxRecDepth 100000
/-! EpW7: the walks of Maker: __init__, less, span, places, many. -/
namespace Ep
open PySem PySem.W PySem.Calls PyProof.Rows L2 EP EpR
theorem n_rs : ¬ (("ranked" : Str) = "commons") := by decide +kernel
theorem n_sc : ¬ (("source" : Str) = "commons") := by decide +kernel
theorem n_sr : ¬ (("source" : Str) = "ranked") := by decide +kernel
theorem n_rs' : ¬ (("ranked" : Str) = "source") := by decide +kernel
def mf (b r c : Addr) : List (Str × V) := putF "commons" (.ref c) (putF "ranked" (.ref r) (putF "source" (.ref b) []))
theorem mf_s (b r c : Addr) : (mf b r c).lookup ("source" : Str) = some (.ref b) := by unfold mf; rw [lookup_putF, if_neg n_sc, lookup_putF, if_neg n_sr, lk_one]
theorem mf_r (b r c : Addr) : (mf b r c).lookup ("ranked" : Str) = some (.ref r) := by unfold mf; rw [lookup_putF, if_neg n_rs, lookup_putF, if_pos rfl]
theorem mf_c (b r c : Addr) : (mf b r c).lookup ("commons" : Str) = some (.ref c) := by unfold mf; rw [lookup_putF, if_pos rfl]
theorem mf_no (b r c : Addr) {m : Str} (h1 : ¬ m = "commons") (h2 : ¬ m = "ranked") (h3 : ¬ m = "source") : (mf b r c).lookup m = none := by
  unfold mf
  rw [lookup_putF, if_neg h1, lookup_putF, if_neg h2, lk_not h3]
theorem putF_len (f : Str) (v : V) (l : List (Str × V)) : (putF f v l).length ≤ l.length + 1 := by
  induction l with
  | nil => exact Nat.le_refl _
  | cons p l ih =>
    obtain ⟨g, u⟩ := p
    show (if g = f then (g, v) :: l else (g, u) :: putF f v l).length ≤ _
    split
    · exact Nat.le_succ _
    · exact Nat.succ_le_succ ih
/-- a Maker of the texts ts: its places in order, what neighbours have in common -/
structure MakAt (CL CM : Addr) (H : Hp) (m : Addr) (ts : List Wd) (ord : List Pl) (com : List Nat) : Prop where
  good : Good ts
  isOrd : IsOrd ts ord
  isCom : IsCom ts ord com
  ex : ∃ dx b r c, H m = some (.ins CM dx (mf b r c)) ∧ LibAt CL H b ts ∧ PL H r ord ∧ H c = some (NL com)
theorem MakAt.same {CL CM : Addr} {H H' : Hp} {m : Addr} {ts : List Wd} {ord : List Pl} {com : List Nat} (e : Same H H') (h : MakAt CL CM H m ts ord com) : MakAt CL CM H' m ts ord com :=
  let ⟨dx, b, r, c, h1, h2, h3, h4⟩ := h.ex
  ⟨h.good, h.isOrd, h.isCom, dx, b, r, c, e _ _ h1, h2.same e, h3.same e, e _ _ h4⟩
theorem MakAt.few {CL CM : Addr} {H : Hp} {m : Addr} {ts : List Wd} {ord : List Pl} {com : List Nat} (h : MakAt CL CM H m ts ord com) : ord.length ≤ 2000 := by rw [h.isOrd.len]; exact h.good.all
def spMakInit (CL CM : Addr) : Sp := fun vs H Q _ => ∃ (m b dx : Addr) (ts : List Wd), vs = [.ref m, .ref b] ∧ H m = some (.ins CM dx []) ∧ LibAt CL H b ts ∧ Good ts ∧
  ∀ H', (∀ x o, H x = some o → x ≠ m → H' x = some o) → (∃ ord com, MakAt CL CM H' m ts ord com) → Q .non H'
def spLess (CL CM : Addr) : Sp := fun vs H Q _ => ∃ (m : Addr) (ts : List Wd) (ord : List Pl) (com : List Nat) (z : Wd), vs = [.ref m, VS z] ∧ MakAt CL CM H m ts ord com ∧ ∀ first, Parts ts ord z first → Q (.int (first : Nat)) H
/-- first .. behind are the endings that begin with z -/
structure Span (ts : List Wd) (ord : List Pl) (z : Wd) (first behind : Nat) : Prop where
  le : first ≤ behind
  le2 : behind ≤ ord.length
  iff : ∀ i p, ord[i]? = some p → ((first ≤ i ∧ i < behind) ↔ z <+: suf ts p)
def IIO (a b : Nat) : HO := .tup [.int (a : Nat), .int (b : Nat)]
def spSpan (CL CM : Addr) : Sp := fun vs H Q _ => ∃ (m : Addr) (ts : List Wd) (ord : List Pl) (com : List Nat) (z : Wd), vs = [.ref m, VS z] ∧ MakAt CL CM H m ts ord com ∧ z.length ≤ 2000 ∧ ∀ H' T first behind, Same H H' → H' T = some (IIO first behind) → Span ts ord z first behind → Q (.ref T) H'
def spPlaces (CL CM : Addr) : Sp := fun vs H Q _ => ∃ (m : Addr) (ts : List Wd) (ord : List Pl) (com : List Nat) (z : Wd), vs = [.ref m, VS z] ∧ MakAt CL CM H m ts ord com ∧ z.length ≤ 2000 ∧ ∀ H' l ps, Same H H' → PL H' l ps → ps.Perm (occ ts z) → Q (.ref l) H'
def spMany (CL CM : Addr) : Sp := fun vs H Q _ => ∃ (m : Addr) (ts : List Wd) (ord : List Pl) (com : List Nat) (z : Wd), vs = [.ref m, VS z] ∧ MakAt CL CM H m ts ord com ∧ z.length ≤ 2000 ∧ ∀ H', Same H H' → Q (.int (cnt ts z : Nat)) H'
theorem Span.perm {ts : List Wd} {ord : List Pl} {z : Wd} {a b : Nat} (S : Span ts ord z a b) (O : IsOrd ts ord) : ((ord.take b).drop a).Perm (occ ts z) := slice_perm O S.iff
theorem Span.cnt {ts : List Wd} {ord : List Pl} {z : Wd} {a b : Nat} (S : Span ts ord z a b) (O : IsOrd ts ord) : b - a = EP.cnt ts z := by
  have h := (S.perm O).length_eq
  rw [List.length_drop, List.length_take] at h
  have := S.le2
  unfold EP.cnt
  omega
theorem cutV_both {α : Type} (f : α → V) (xs : List α) (i j : Nat) : cutV (xs.map f) (some (i : Int)) (some (j : Int)) = ((xs.take j).drop i).map f := by
  unfold cutV
  rw [HT.sIx_nat, HT.sIx_nat, List.length_map, ← List.map_drop, ← List.map_take]
  refine congrArg (List.map f) ?_
  rw [List.drop_take]
  apply List.ext_getElem?
  intro n
  simp only [List.getElem?_take, List.getElem?_drop]
  by_cases h : i ≤ xs.length
  · rw [Nat.min_eq_left h]
    by_cases h1 : n < j - i
    · rw [if_pos h1]
      by_cases h2 : n < min j xs.length - i
      · rw [if_pos h2]
      · rw [if_neg h2, List.getElem?_eq_none (by omega)]
    · rw [if_neg h1, if_neg (by omega)]
  · rw [if_neg (by omega)]
    by_cases h1 : n < j - i
    · rw [if_pos h1, List.getElem?_eq_none (by omega)]
    · rw [if_neg h1]
theorem mem_part {α : Type} {xs : List α} {i j : Nat} {x : α} (h : x ∈ (xs.take j).drop i) : x ∈ xs := List.mem_of_mem_take (List.mem_of_mem_drop h)
theorem ZL.at {H : Hp} {r : Addr} {zs : List (Addr × Pl)} (h : ZL H r zs) {i : Nat} {p : Pl} (hp : (zs.map Prod.snd)[i]? = some p) : ∃ a, zs[i]? = some (a, p) ∧ H a = some (PlO p) ∧ atI (zs.map fun z => V.ref z.1) (i : Int) = some (.ref a) := by
  obtain ⟨z, hz, rfl⟩ := at_map hp
  exact ⟨z.1, hz, h.2 z (List.mem_of_getElem? hz), atI_nat (by rw [List.getElem?_map, hz]; rfl)⟩
section
variable {P : Program} {w : World} {K : PySem.W.Frag} {mg : Str → Option Value} {base : Heap} {CL CM CC : Addr}
abbrev sMi : Stmt := inClass (top 31) 0
abbrev sMl : Stmt := inClass (top 31) 1
abbrev sMs : Stmt := inClass (top 31) 2
abbrev sMp : Stmt := inClass (top 31) 3
abbrev sMm : Stmt := inClass (top 31) 4
theorem scMi : FnScope ["self", "library"] ["self", "library"] (defScope sMi) := ⟨rfl, rfl, rfl, by decide +kernel, rfl, by decide +kernel, by decide +kernel⟩
theorem ok_minit (T : Txt K mg CL CM CC) (D : Di K mg CM "Maker" "Maker.__init__" sMi ["self", "library"]) (GO : Cd P w K mg base 2 "order_of" (spOrder CL)) (GL : Cd P w K mg base 3 "lengths_of" (spLens CL)) : Ci P w K mg base 4 CM "Maker" (spMakInit CL CM) := by
  refine D.ok scMi (fun vs H Q E h => ?_) (fun f cdv A outer s H vs Q E hr h => ?_)
  · obtain ⟨m, b, dx, ts, rfl, _⟩ := h
    rfl
  · obtain ⟨m, b, dx, ts, rfl, hm, hL, hg, k⟩ := h
    refine ⟨_, pss_cons (ps_fld (pv 0) (pv 1) rfl)
      (pss_cons (ps_fld (pv 0) (pe_cd GO hr (by decide) (by rfl) (pa_cons (pv 1) pa_nil)) rfl)
      (pss_one (ps_fld (pv 0) (pe_cd GL hr (by decide) (by rfl) (pa_cons (pv 1) (pa_cons (pe_fld (pv 0) rfl) pa_nil))) rfl))), ?_⟩
    have keep : ∀ (H1 : Hp) (fs : List (Str × V)), (∀ x o, H x = some o → x ≠ m → H1 x = some o) → LibAt CL (upd H1 m (.ins CM dx fs)) b ts := fun H1 fs s1 => by
      obtain ⟨t, dl, h1, h2⟩ := hL
      have n1 : b ≠ m := ne_of h1 hm (by
        intro q
        injection q with _ _ q
        have e := congrArg (List.lookup ("texts" : Str)) q
        rw [lk_one] at e
        cases e)
      have n2 : t ≠ m := ne_of h2 hm (by intro q; cases q)
      exact ⟨t, dl, by rw [upd_ne n1]; exact s1 _ _ h1 n1, by show upd _ _ _ t = _; rw [upd_ne n2]; exact s1 _ _ h2 n2⟩
    refine ⟨_, rfl, _, rfl, m, CM, dx, [], rfl, hm, T.cM, T.nS, (by show 0 < 1000; decide), ?_⟩
    refine ⟨_, rfl, b, ts, rfl, keep H _ (fun _ _ e _ => e), hg, fun H1 r ord s1 hr1 O => ?_⟩
    refine ⟨_, rfl, m, CM, dx, _, rfl, s1 _ _ upd_same, T.cM, T.nR, Nat.lt_of_le_of_lt (putF_len _ _ _) (by decide), ?_⟩
    have n1 : r ≠ m := by
      obtain ⟨zs, hz, _⟩ := hr1
      exact ne_of hz.1 (s1 _ _ upd_same) (by intro q; cases q)
    have s2 : ∀ x o, H x = some o → x ≠ m → H1 x = some o := fun x o e hx => s1 _ _ (by rw [upd_ne hx]; exact e)
    have hr2 : PL (upd H1 m (.ins CM dx (putF "ranked" (.ref r) (putF "source" (.ref b) [])))) r ord := by
      obtain ⟨zs, hz, e⟩ := hr1
      refine ⟨zs, ⟨by rw [upd_ne n1]; exact hz.1, fun z hz' => ?_⟩, e⟩
      rw [upd_ne (ne_of (hz.2 z hz') (s1 _ _ upd_same) (by intro q; cases q))]
      exact hz.2 z hz'
    refine ⟨_, rfl, _, rfl, m, CM, dx, _, _, rfl, upd_same, T.cM, T.nR, (by rw [lookup_putF, if_pos rfl]), b, r, ts, ord, rfl, keep H1 _ s2, hg, hr2, O, fun H2 c com s3 e3 C => ?_⟩
    refine ⟨_, rfl, m, CM, dx, _, rfl, s3 _ _ upd_same, T.cM, T.nC, Nat.lt_of_le_of_lt (Nat.le_trans (putF_len _ _ _) (Nat.succ_le_succ (putF_len _ _ _))) (by decide), ?_⟩
    have s4 : ∀ x o, H x = some o → x ≠ m → H2 x = some o := fun x o e hx => s3 _ _ (by rw [upd_ne hx]; exact s2 x o e hx)
    refine k _ (fun x o e hx => by rw [upd_ne hx]; exact s4 x o e hx) ⟨ord, com, hg, O, C, dx, b, r, c, upd_same, keep H2 _ s4, ?_, ?_⟩
    · obtain ⟨zs, hz, e⟩ := hr2.same s3
      have hm2 := s3 _ _ (upd_same (H := H1) (a := m))
      refine ⟨zs, ⟨?_, fun z hz' => ?_⟩, e⟩
      · rw [upd_ne (ne_of hz.1 (s3 _ _ upd_same) (by intro q; cases q))]
        exact hz.1
      · rw [upd_ne (ne_of (hz.2 z hz') (s3 _ _ upd_same) (by intro q; cases q))]
        exact hz.2 z hz'
    · rw [upd_ne (ne_of e3 (s3 _ _ upd_same) (by intro q; cases q))]
      exact e3
abbrev NMl : List Str := ["self", "word", "least", "most", "middle"]
theorem scMl : FnScope NMl ["self", "word"] (defScope sMl) := ⟨rfl, rfl, rfl, by decide +kernel, rfl, by decide +kernel, by decide +kernel⟩
def muD (σ : L2.St) : Nat := match (σ[2]? : Option (Option V)), (σ[3]? : Option (Option V)) with
  | some (some (V.int i)), some (some (V.int j)) => (j - i).toNat
  | _, _ => 0
theorem ok_less (T : Txt K mg CL CM CC) (D : Dm K CM "less" "Maker.less" sMl ["self", "word"]) (GE : Cd P w K mg base 1 "ending_at" (spEnd CL)) : Cm P w K mg base 2 CM "less" (spLess CL CM) := by
  refine D.ok scMl (fun vs H Q E h => ?_) (fun f cdv A outer s H vs Q E hr h => ?_)
  · obtain ⟨m, ts, ord, com, z, rfl, _⟩ := h
    rfl
  · obtain ⟨m, ts, ord, com, z, rfl, hM, k⟩ := h
    obtain ⟨dx, b, r, c, hm, hL, ⟨zs, hz, hzs⟩, hc⟩ := hM.ex
    have hn := hM.few
    have O := hM.isOrd
    have hzl : zs.length = ord.length := by rw [← hzs, List.length_map]
    refine ⟨_, pss_cons (ps_par (by rfl) scMl.nd (i := 2) (j := 3) rfl rfl (by decide) rfl rfl (pa_cons pe_int (pa_cons (pe_len T.len (pe_fld (pv 0) rfl)) pa_nil)) (by rfl))
      (pss_cons (ps_while PassesOwn.never (pt_cmpR op_lt (pv 2) (pv 3) (nomark _))
        (pss_cons (ps_set (i := 4) scMl.nd rfl (Or.inl rfl) (pe_op op_fdivN (pe_op op_add (pv 2) (pv 3)) pe_int))
        (pss_one (ps_if (pt_cmpR op_lt_str (pe_cd GE hr (by decide) (by rfl) (pa_cons (pe_fld (pv 0) rfl) (pa_cons (pe_ix ix_list (pe_fld (pv 0) rfl) (pv 4) (fun _ _ => rfl)) pa_nil))) (pv 1) (nomark _))
          (pss_one (ps_set (i := 2) scMl.nd rfl (Or.inl rfl) (pe_op op_add (pv 4) pe_int)))
          (pss_one (ps_set (i := 3) scMl.nd rfl (Or.inl rfl) (pv 4)))))))
      (pss_one (ps_ret (pv 2)))), ?_⟩
    refine ⟨_, rfl, m, CM, dx, _, _, rfl, hm, T.cM, T.nR, mf_r _ _ _, _, _, rfl, .inl ⟨_, SqL.of hz.1, rfl⟩, _, _, rfl, ?_⟩
    rw [List.length_map, hzl]
    refine while_by (fun σ H' => H' = H ∧ ∃ (a e : Nat) (v : Option V), σ = [some (.ref m), some (VS z), some (.int (a : Nat)), some (.int (e : Nat)), v] ∧ a ≤ e ∧ e ≤ ord.length ∧ (∀ i p, ord[i]? = some p → i < a → suf ts p < z) ∧ ∀ i p, ord[i]? = some p → e ≤ i → ¬ suf ts p < z)
      (fun σ _ => muD σ) ⟨rfl, 0, ord.length, none, rfl, Nat.zero_le _, Nat.le_refl _, fun i p _ h => absurd h (Nat.not_lt_zero _), fun i p hp h => ?_⟩ ?_ (fun σ H Q Q' hq ⟨v, h1, u, h2, i, j, e1, e2, k, e3, q⟩ => ⟨v, h1, u, h2, i, j, e1, e2, k, e3, hq _ _ q⟩)
    · have := (List.getElem?_eq_some_iff.mp hp).1
      omega
    · rintro σ H1 ⟨rfl, a, e, v, rfl, hae, hen, lo, hi⟩
      refine ⟨_, rfl, _, rfl, _, _, rfl, rfl, _, rfl, ?_⟩
      refine ite2 (fun hlt => ?_) (fun hge => ?_)
      · have hlt : (a : Int) < (e : Nat) := of_decide_eq_true hlt
        have hmid : Int.fdiv ((a : Int) + (e : Nat)) 2 = (((a + e) / 2 : Nat) : Int) := by
          rw [Int.fdiv_eq_ediv_of_nonneg _ (by decide)]
          omega
        refine ⟨_, rfl, _, rfl, _, _, rfl, rfl, _, _, rfl, rfl, ⟨by decide, by decide⟩, ?_⟩
        have hmlt : (a + e) / 2 < ord.length := by omega
        have ho : ord[(a + e) / 2]? = some ord[(a + e) / 2] := List.getElem?_eq_getElem hmlt
        generalize ord[(a + e) / 2] = p at ho
        obtain ⟨x, hx, hxp, hat⟩ := hz.at (i := (a + e) / 2) (p := p) (by rw [hzs]; exact ho)
        refine ⟨_, rfl, m, CM, dx, _, _, rfl, hm, T.cM, T.nS, mf_s _ _ _, _, rfl, m, CM, dx, _, _, rfl, hm, T.cM, T.nR, mf_r _ _ _, _, rfl, r, _, _, _, rfl, rfl, SqL.of hz.1, (by rw [hmid]; exact hat), b, x, ts, p, rfl, hL, hM.good, hxp, in_few (O.at ho), _, rfl, _, _, rfl, rfl, _, rfl, ?_⟩
        refine ite2 (fun q => ?_) (fun q => ?_)
        · have q : suf ts p < z := of_decide_eq_true q
          refine ⟨_, rfl, _, _, rfl, rfl, ?_⟩
          refine ⟨⟨rfl, (a + e) / 2 + 1, e, _, (by rw [hmid]; rfl), by omega, hen, fun i p' hp' hi' => ?_, hi⟩, ?_⟩
          · have h1 := O.le hp' ho (by omega)
            rcases wd_trich (suf ts p') (suf ts p) with t | t | t
            · exact wd_tr t q
            · rw [t]; exact q
            · exact absurd t h1
          · show ((e : Int) - (Int.fdiv ((a : Int) + (e : Nat)) 2 + 1)).toNat < ((e : Int) - (a : Int)).toNat
            rw [hmid]
            omega
        · have q : ¬ suf ts p < z := fun t => q (decide_eq_true t)
          refine ⟨_, rfl, ?_⟩
          refine ⟨⟨rfl, a, (a + e) / 2, _, (by show [some (V.ref m), some (VS z), some (V.int (a : Nat)), some (V.int (Int.fdiv ((a : Int) + (e : Nat)) 2)), _] = _; rw [hmid]), by omega, by omega, lo, fun i p' hp' hi' t => ?_⟩, ?_⟩
          · have h1 := O.le ho hp' hi'
            rcases wd_trich (suf ts p') (suf ts p) with u | u | u
            · exact h1 u
            · rw [u] at t; exact q t
            · exact q (wd_tr u t)
          · show ((Int.fdiv ((a : Int) + (e : Nat)) 2) - (a : Int)).toNat < ((e : Int) - (a : Int)).toNat
            rw [hmid]
            omega
      · have hge : ¬ (a : Int) < (e : Nat) := fun t => hge (decide_eq_true t)
        refine ⟨_, rfl, k a ⟨by omega, fun i p hp => ⟨fun t => Nat.lt_of_not_le fun u => hi i p hp (by omega) t, lo i p hp⟩⟩⟩
abbrev NMs : List Str := ["self", "word", "first", "behind"]
theorem scMs : FnScope NMs ["self", "word"] (defScope sMs) := ⟨rfl, rfl, rfl, by decide +kernel, rfl, by decide +kernel, by decide +kernel⟩
theorem ok_span (T : Txt K mg CL CM CC) (D : Dm K CM "span" "Maker.span" sMs ["self", "word"]) (GE : Cd P w K mg base 1 "ending_at" (spEnd CL)) (GL : Cm P w K mg base 2 CM "less" (spLess CL CM)) : Cm P w K mg base 3 CM "span" (spSpan CL CM) := by
  refine D.ok scMs (fun vs H Q E h => ?_) (fun f cdv A outer s H vs Q E hr h => ?_)
  · obtain ⟨m, ts, ord, com, z, rfl, _⟩ := h
    rfl
  · obtain ⟨m, ts, ord, com, z, rfl, hM, hzz, k⟩ := h
    obtain ⟨dx, b, r, c, hm, hL, ⟨zs, hz, hzs⟩, hc⟩ := hM.ex
    have hn := hM.few
    have O := hM.isOrd
    have hzl : zs.length = ord.length := by rw [← hzs, List.length_map]
    have hzS : (S z).length ≤ sizeLine := by rw [S_len]; exact line2 (by omega)
    refine ⟨_, pss_cons (ps_set (i := 2) scMs.nd rfl (Or.inl rfl) (pe_cm GL T.cM hr (by decide) (pv 0) (pa_cons (pv 1) pa_nil)))
      (pss_cons (ps_if (PW.pt (pw_or (pt_cmpR op_eq (pv 2) (pe_len T.len (pe_fld (pv 0) rfl)) (nomark _)) (pw_or1 (pt_cmpR op_ne (pe_slice sl_str (pe_cd GE hr (by decide) (by rfl) (pa_cons (pe_fld (pv 0) rfl) (pa_cons (pe_ix ix_list (pe_fld (pv 0) rfl) (pv 2) (fun _ _ => rfl)) pa_nil))) po_none (po_some (pe_lens T.len (pv 1)))) (pv 1) (nomark _)))))
        (pss_one (ps_ret (pe_tup (pa_cons (pv 2) (pa_cons (pv 2) pa_nil))))) pss_nil)
      (pss_cons (ps_set (i := 3) scMs.nd rfl (Or.inl rfl) (pe_op op_add (pv 2) pe_int))
      (pss_cons (ps_while PassesOwn.never (PW.pt (pw_and (pt_cmpR op_lt (pv 3) (pe_len T.len (pe_fld (pv 0) rfl)) (nomark _)) (pw_and1 (pt_cmpR op_ge (pe_ix ix_list (pe_fld (pv 0) rfl) (pv 3) (fun _ _ => rfl)) (pe_lens T.len (pv 1)) (nomark _)))))
        (pss_one (ps_aug (i := 3) scMs.nd rfl (Or.inl rfl) pe_int ip_add)))
      (pss_one (ps_ret (pe_tup (pa_cons (pv 2) (pa_cons (pv 3) pa_nil)))))))), ?_⟩
    refine ⟨_, rfl, m, dx, _, rfl, hm, mf_no _ _ _ (by decide +kernel) (by decide +kernel) (by decide +kernel), _, rfl, m, ts, ord, com, z, rfl, hM, fun first F => ?_⟩
    refine ⟨_, rfl, _, rfl, m, CM, dx, _, _, rfl, hm, T.cM, T.nR, mf_r _ _ _, _, _, rfl, .inl ⟨_, SqL.of hz.1, rfl⟩, rfl, _, rfl, ?_⟩
    have none : (∀ p, ord[first]? = some p → ¬ z <+: suf ts p) → Span ts ord z first first := fun h => by
      have e := span_none O F h
      refine ⟨Nat.le_refl _, F.1, fun i p hp => ⟨fun t => by omega, fun t => ?_⟩⟩
      have : p ∈ occ ts z := mem_occ.mpr ⟨O.at hp, t⟩
      rw [e] at this
      cases this
    rw [List.length_map, hzl, dec_int]
    refine ite2 (fun q => ?_) (fun q => ?_)
    · have q : first = ord.length := by have := eq_of_beq q; omega
      refine iteT ?_
      refine ⟨_, rfl, _, rfl, by show 2 ≤ sizeLine; decide, fun p hp => ?_⟩
      refine k _ _ _ _ (put (Same.refl H) hp) upd_same (none fun p hp => ?_)
      rw [List.getElem?_eq_none (by omega)] at hp
      cases hp
    have q : first ≠ ord.length := fun e => q (by rw [e]; simp)
    have hfl : first < ord.length := by have := F.1; omega
    have ho : ord[first]? = some ord[first] := List.getElem?_eq_getElem hfl
    generalize ord[first] = p at ho
    obtain ⟨x, hx, hxp, hat⟩ := hz.at (i := first) (p := p) (by rw [hzs]; exact ho)
    refine ⟨_, rfl, m, CM, dx, _, _, rfl, hm, T.cM, T.nS, mf_s _ _ _, _, rfl, m, CM, dx, _, _, rfl, hm, T.cM, T.nR, mf_r _ _ _, _, rfl, r, _, _, _, rfl, rfl, SqL.of hz.1, hat, b, x, ts, p, rfl, hL, hM.good, hxp, in_few (O.at ho), ?_⟩
    refine ⟨_, rfl, _, rfl, hzS, _, rfl, _, rfl, by rw [S_len]; exact line2 (Nat.le_trans (suf_le hM.good _) (by decide)), _, rfl, rfl, _, rfl, ?_⟩
    rw [S_len, cut_to, VS_dec]
    have hpre : (suf ts p).take z.length = z ↔ z <+: suf ts p := ⟨fun e => by rw [← e]; exact List.take_prefix _ _, fun e => (List.prefix_iff_eq_take.mp e).symm⟩
    refine ite2 (fun q2 => ?_) (fun q2 => ?_)
    · refine ⟨_, rfl, _, rfl, by show 2 ≤ sizeLine; decide, fun a ha => ?_⟩
      refine k _ _ _ _ (put (Same.refl H) ha) upd_same (none fun p' hp' => ?_)
      rw [ho] at hp'
      obtain rfl := Option.some.inj hp'
      simp only [Bool.not_eq_true', decide_eq_false_iff_not] at q2
      exact fun t => q2 (hpre.mpr t)
    · have hp0 : z <+: suf ts p := by
        simp only [Bool.not_eq_true', decide_eq_false_iff_not, Decidable.not_not] at q2
        exact hpre.mp q2
      refine ⟨_, rfl, _, _, rfl, rfl, ?_⟩
      have hcl : com.length = ord.length := hM.isCom.len
      refine while_by (fun σ H' => H' = H ∧ ∃ (e : Nat), σ = [some (.ref m), some (VS z), some (.int (first : Nat)), some (.int (e : Nat))] ∧ first < e ∧ e ≤ ord.length ∧ ∀ j c, first < j → j < e → com[j]? = some c → z.length ≤ c)
        (fun σ _ => muC ord.length 3 σ) ⟨rfl, first + 1, rfl, by omega, by omega, fun j c h1 h2 _ => by omega⟩ ?_ ?_
      · rintro σ H1 ⟨rfl, e, rfl, he1, he2, hall⟩
        have fin : (∀ c, com[e]? = some c → c < z.length) → Span ts ord z first e := fun h =>
          ⟨Nat.le_of_lt he1, he2, span_some O hM.isCom F (fun p' hp' => by rw [ho] at hp'; obtain rfl := Option.some.inj hp'; exact hp0) he1 he2 hall h⟩
        refine ⟨_, rfl, _, rfl, m, CM, dx, _, _, rfl, hm, T.cM, T.nR, mf_r _ _ _, _, _, rfl, .inl ⟨_, SqL.of hz.1, rfl⟩, _, _, rfl, rfl, _, rfl, ?_⟩
        rw [List.length_map, hzl]
        refine ite2 (fun q => ?_) (fun q => ?_)
        · have q : (e : Int) < (ord.length : Nat) := of_decide_eq_true q
          have hce : com[e]? = some (com[e]'(by omega)) := List.getElem?_eq_getElem (by omega)
          generalize com[e]'(by omega) = d at hce
          refine ⟨_, rfl, m, CM, dx, _, _, rfl, hm, T.cM, T.nC, mf_c _ _ _, _, rfl, c, _, _, _, rfl, rfl, SqL.of hc, atI_nat (j := e) (by rw [List.getElem?_map, hce]; rfl), _, rfl, _, rfl, hzS, _, _, rfl, rfl, _, rfl, ?_⟩
          rw [S_len]
          refine ite2 (fun q3 => ?_) (fun q3 => ?_)
          · have q3 : (z.length : Int) ≤ (d : Nat) := of_decide_eq_true q3
            refine ⟨_, rfl, _, _, rfl, rfl, ⟨rfl, e + 1, rfl, by omega, by omega, fun j c' h1 h2 h3 => ?_⟩, ?_⟩
            · rcases Nat.lt_or_eq_of_le (Nat.le_of_lt_succ h2) with t | t
              · exact hall j c' h1 t h3
              · subst t
                rw [hce] at h3
                obtain rfl := Option.some.inj h3
                omega
            · show (((ord.length : Nat) : Int) - ((e : Int) + 1)).toNat < (((ord.length : Nat) : Int) - (e : Int)).toNat
              omega
          · have q3 : ¬ (z.length : Int) ≤ (d : Nat) := fun t => q3 (decide_eq_true t)
            refine ⟨_, rfl, _, rfl, by show 2 ≤ sizeLine; decide, fun a ha => k _ _ _ _ (put (Same.refl _) ha) upd_same (fin fun c' hc' => ?_)⟩
            rw [hce] at hc'
            obtain rfl := Option.some.inj hc'
            omega
        · have q : ¬ (e : Int) < (ord.length : Nat) := fun t => q (decide_eq_true t)
          refine ⟨_, rfl, _, rfl, by show 2 ≤ sizeLine; decide, fun a ha => k _ _ _ _ (put (Same.refl _) ha) upd_same (fin fun c' hc' => ?_)⟩
          rw [List.getElem?_eq_none (by omega)] at hc'
          cases hc'
      · intro σ H Q Q' hq h
        obtain ⟨v, h1, u, h2, a, C, dx, fs, v2, g1, g2, g3, g4, g5, x, n, g6, g7, i, j, e1, e2, k, e3, q⟩ := h
        refine ⟨v, h1, u, h2, a, C, dx, fs, v2, g1, g2, g3, g4, g5, x, n, g6, g7, i, j, e1, e2, k, e3, ?_⟩
        cases k with
        | false => exact hq _ _ q
        | true =>
          obtain ⟨u, h2, a, C, dx, fs, v2, g1, g2, g3, g4, g5, v, h1, p, xs, i, y, f1, f2, f3, f4, t, h3, z, f5, f6, i2, j2, e1, e2, k, e3, q⟩ := q
          exact ⟨u, h2, a, C, dx, fs, v2, g1, g2, g3, g4, g5, v, h1, p, xs, i, y, f1, f2, f3, f4, t, h3, z, f5, f6, i2, j2, e1, e2, k, e3, hq _ _ q⟩
end
end Ep
end
section
set_option linter.all false
set_option maxRecDepth 100000
/-! EpW8: the walks of Maker's places, many, sign_ahead, grown_behind. -/
namespace Ep
open PySem PySem.W PySem.Calls PyProof.Rows L2 EP EpR
/-- a sign ahead as a value -/
def sgV : Option Nat → V
  | none => .non
  | some c => VS [c]
theorem sgV_inj {a b : Option Nat} (h : sgV a = sgV b) : a = b := by
  cases a with
  | none => cases b with
    | none => rfl
    | some d => cases h
  | some c => cases b with
    | none => cases h
    | some d =>
      have := VS_inj h
      simp only [List.cons.injEq, and_true] at this
      rw [this]
theorem sgV_dec (a b : Option Nat) : decide (sgV a = sgV b) = (a == b) := by
  rw [Bool.eq_iff_iff, decide_eq_true_iff, beq_iff_eq]
  exact ⟨sgV_inj, fun h => by rw [h]⟩
theorem sgV_scal (a b : Option Nat) : scal (sgV a) (sgV b) = true := by cases a <;> cases b <;> rfl
theorem saf_head {a : Option Nat} {l : List (Option Nat)} (h : l[0]? = some a) : saf l = if (l.map fun x => x == a).all id = true then a else none := by
  cases l with
  | nil => cases h
  | cons b r =>
    obtain rfl := Option.some.inj h
    rw [saf_cons, List.all_map]
    rfl
def spAhead (CL CM : Addr) : Sp := fun vs H Q _ => ∃ (m l : Addr) (ts : List Wd) (ord : List Pl) (com : List Nat) (ps : List Pl), vs = [.ref m, .ref l] ∧ MakAt CL CM H m ts ord com ∧ PL H l ps ∧ (∀ p ∈ ps, p ∈ allP ts) ∧ ps ≠ [] ∧ ps.length ≤ 2000 ∧
  ∀ H', Same H H' → Q (sgV (saf (ps.map (ah ts)))) H'
/-- all that begin with the word begin with g, and not with one sign more -/
structure Behind (ts : List Wd) (z g : Wd) : Prop where
  pre : z <+: g
  stands : ∀ p ∈ occ ts z, g <+: suf ts p
  right : ∀ c, ¬ ∀ p ∈ occ ts z, (g ++ [c]) <+: suf ts p
def spBehind (CL CM : Addr) : Sp := fun vs H Q _ => ∃ (m T : Addr) (ts : List Wd) (ord : List Pl) (com : List Nat) (z : Wd) (first behind : Nat), vs = [.ref m, .ref T] ∧ MakAt CL CM H m ts ord com ∧ H T = some (IIO first behind) ∧ Span ts ord z first behind ∧ first < behind ∧
  ∀ H' g, Same H H' → Behind ts z g → Q (VS g) H'
theorem Span.in {ts : List Wd} {ord : List Pl} {z : Wd} {a b : Nat} (S : Span ts ord z a b) (O : IsOrd ts ord) {p : Pl} : p ∈ occ ts z ↔ ∃ i, a ≤ i ∧ i < b ∧ ord[i]? = some p := by
  constructor
  · intro h
    obtain ⟨h1, h2⟩ := mem_occ.mp h
    obtain ⟨i, hi, e⟩ := List.getElem_of_mem (O.mem.mpr h1)
    have e : ord[i]? = some p := by rw [List.getElem?_eq_getElem hi, e]
    have := (S.iff i p e).mpr h2
    exact ⟨i, this.1, this.2, e⟩
  · rintro ⟨i, h1, h2, e⟩
    exact mem_occ.mpr ⟨O.at e, (S.iff i p e).mp ⟨h1, h2⟩⟩
theorem behind_one {ts : List Wd} {ord : List Pl} {z : Wd} {a : Nat} {p : Pl} (O : IsOrd ts ord) (S : Span ts ord z a (a + 1)) (hp : ord[a]? = some p) : Behind ts z (suf ts p) := by
  refine ⟨(S.iff a p hp).mp ⟨Nat.le_refl _, Nat.lt_succ_self _⟩, fun q hq => ?_, fun c h => ?_⟩
  · obtain ⟨i, h1, h2, e⟩ := (S.in O).mp hq
    obtain rfl : i = a := by omega
    rw [hp] at e
    obtain rfl := Option.some.inj e
    exact List.prefix_refl _
  · have := (h p ((S.in O).mpr ⟨a, Nat.le_refl _, Nat.lt_succ_self _, hp⟩)).length_le
    rw [List.length_append, List.length_singleton] at this
    omega
theorem behind_more {ts : List Wd} {ord : List Pl} {com : List Nat} {z : Wd} {a b : Nat} {p : Pl} {k : Nat} (O : IsOrd ts ord) (C : IsCom ts ord com) (S : Span ts ord z a b) (hp : ord[a]? = some p) (hab : a + 1 < b)
    (hm : ∃ j, a < j ∧ j < b ∧ com[j]? = some k) (hle : ∀ j c, a < j → j < b → com[j]? = some c → k ≤ c) : Behind ts z ((suf ts p).take k) := by
  have hb := S.le2
  have at_ : ∀ i, i < b → ord[i]? = some (ord.getD i (0, 0)) := fun i h => by
    rw [List.getD_eq_getElem?_getD, List.getElem?_eq_getElem (by omega)]; rfl
  have hk1 : k ≤ (suf ts p).length := by
    have c1 := C.succ a p _ hp (at_ (a + 1) hab)
    exact Nat.le_trans (hle (a + 1) _ (by omega) hab c1) (lcp_le_left _ _)
  have up : ∀ i, a ≤ i → i < b → ∀ q, ord[i]? = some q → (suf ts p).take k <+: suf ts q := by
    intro i
    induction i with
    | zero =>
      intro h1 h2 q hq
      obtain rfl : a = 0 := by omega
      rw [hp] at hq
      obtain rfl := Option.some.inj hq
      exact List.take_prefix _ _
    | succ i ih =>
      intro h1 h2 q hq
      by_cases e : a = i + 1
      · subst e
        rw [hp] at hq
        obtain rfl := Option.some.inj hq
        exact List.take_prefix _ _
      · have hi := at_ i (by omega)
        have w1 := ih (by omega) (by omega) _ hi
        have c1 := C.succ i _ _ hi hq
        refine (pre_iff_lcp _ _ _ w1).mpr ?_
        rw [List.length_take, Nat.min_eq_left hk1]
        exact hle (i + 1) _ (by omega) h2 c1
  have hz : ∀ i q, a ≤ i → i < b → ord[i]? = some q → z <+: suf ts q := fun i q h1 h2 e => (S.iff i q e).mp ⟨h1, h2⟩
  obtain ⟨j, j1, j2, j3⟩ := hm
  obtain ⟨i, rfl⟩ : ∃ i, j = i + 1 := ⟨j - 1, by omega⟩
  have hi := at_ i (by omega)
  have hj := at_ (i + 1) j2
  have c1 := C.succ i _ _ hi hj
  rw [j3] at c1
  have c1 := Option.some.inj c1
  refine ⟨?_, fun q hq => ?_, fun c h => ?_⟩
  · have h1 := hz i _ (by omega) (by omega) hi
    have h2 := hz (i + 1) _ (by omega) j2 hj
    have h3 : z.length ≤ k := by rw [c1]; exact (pre_iff_lcp _ _ _ h1).mp h2
    have h4 := hz a p (Nat.le_refl _) (by omega) hp
    exact List.prefix_of_prefix_length_le h4 (List.take_prefix _ _) (by rw [List.length_take]; omega)
  · obtain ⟨i, h1, h2, e⟩ := (S.in O).mp hq
    exact up i h1 h2 q e
  · have h1 := h _ ((S.in O).mpr ⟨i, by omega, by omega, hi⟩)
    have h2 := h _ ((S.in O).mpr ⟨i + 1, by omega, j2, hj⟩)
    have := (pre_iff_lcp _ _ _ h1).mp h2
    rw [List.length_append, List.length_singleton, List.length_take, Nat.min_eq_left hk1, ← c1] at this
    omega
section
variable {P : Program} {w : World} {K : PySem.W.Frag} {mg : Str → Option Value} {base : Heap} {CL CM CC : Addr}
abbrev NMp : List Str := ["self", "word", "first", "behind"]
theorem scMp : FnScope NMp ["self", "word"] (defScope sMp) := ⟨rfl, rfl, rfl, by decide +kernel, rfl, by decide +kernel, by decide +kernel⟩
theorem ok_places (T : Txt K mg CL CM CC) (D : Dm K CM "places" "Maker.places" sMp ["self", "word"]) (GS : Cm P w K mg base 3 CM "span" (spSpan CL CM)) : Cm P w K mg base 4 CM "places" (spPlaces CL CM) := by
  refine D.ok scMp (fun vs H Q E h => ?_) (fun f cdv A outer s H vs Q E hr h => ?_)
  · obtain ⟨m, ts, ord, com, z, rfl, _⟩ := h
    rfl
  · obtain ⟨m, ts, ord, com, z, rfl, hM, hzz, k⟩ := h
    obtain ⟨dx, b, r, c, hm, hL, ⟨zs, hz, hzs⟩, hc⟩ := hM.ex
    refine ⟨_, pss_cons (ps_asg (pe_cm GS T.cM hr (by decide) (pv 0) (pa_cons (pv 1) pa_nil)) (pg_tup rfl (pgs_cons (pg_name (i := 2) scMp.nd rfl (Or.inl rfl)) (pgs_cons (pg_name (i := 3) scMp.nd rfl (Or.inl rfl)) pgs_nil))))
      (pss_one (ps_ret (pe_callB (cr_sortD hr.units) (by rfl) T.sorted (by decide +kernel) (pa_cons (pe_slice sl_list (pe_fld (pv 0) rfl) (po_some (pv 2)) (po_some (pv 3))) pa_nil)))), ?_⟩
    refine ⟨_, rfl, m, dx, _, rfl, hm, mf_no _ _ _ (by decide +kernel) (by decide +kernel) (by decide +kernel), _, rfl, m, ts, ord, com, z, rfl, hM, hzz, fun H1 t first behind s1 e1 S => ?_⟩
    refine ⟨t, _, rfl, SqT.of e1, rfl, _, _, rfl, _, _, rfl, rfl, ?_⟩
    have hz1 := hz.same s1
    refine ⟨_, rfl, m, CM, dx, _, _, rfl, s1 _ _ hm, T.cM, T.nR, mf_r _ _ _, _, rfl, _, rfl, _, rfl, _, rfl, r, _, rfl, SqL.of hz1.1, fun l hl => ?_⟩
    have s2 : Same H1 (upd H1 l (.lst (cutV (zs.map fun z => V.ref z.1) (some (first : Nat)) (some (behind : Nat))))) := put (Same.refl _) hl
    have hmem : ∀ x ∈ (zs.take behind).drop first, x ∈ zs := fun x hx => mem_part hx
    refine ⟨Addr × Pl, fun z => .ref z.1, fun z => .tuple [.int (z.2.1 : Nat), .int (z.2.2 : Nat)], (zs.take behind).drop first, l, rfl, SqL.of ?_, fun x hx => .pair (SqT.of (s2 _ _ (hz1.2 x (hmem x hx)))) (.int _) (.int _), AllAlike.of fun _ _ => by simp [alike, alikeAll], .inl fun q hq => ?_, fun _ _ => ?_, fun ys p hp hs np => ?_⟩
    · rw [upd_same, cutV_both]
    · obtain ⟨z, _, rfl⟩ := List.mem_map.mp hq
      exact ⟨_, _, rfl⟩
    · simp [PyData.depth, PyData.depthAll]
    · have s3 := put s2 (s2.free np) (o := .lst (ys.map fun z => V.ref z.1))
      refine k _ p (ys.map Prod.snd) (s1.trans s3) ⟨ys, ⟨upd_same, fun x hx => s3 _ _ (hz1.2 x (hmem x (hp.mem_iff.mp hx)))⟩, rfl⟩ ?_
      have h1 := hp.map Prod.snd
      rw [List.map_drop, List.map_take, hzs] at h1
      exact h1.trans (S.perm hM.isOrd)
abbrev NMm : List Str := ["self", "word", "first", "behind"]
theorem scMm : FnScope NMm ["self", "word"] (defScope sMm) := ⟨rfl, rfl, rfl, by decide +kernel, rfl, by decide +kernel, by decide +kernel⟩
theorem ok_many (T : Txt K mg CL CM CC) (D : Dm K CM "many" "Maker.many" sMm ["self", "word"]) (GS : Cm P w K mg base 3 CM "span" (spSpan CL CM)) : Cm P w K mg base 4 CM "many" (spMany CL CM) := by
  refine D.ok scMm (fun vs H Q E h => ?_) (fun f cdv A outer s H vs Q E hr h => ?_)
  · obtain ⟨m, ts, ord, com, z, rfl, _⟩ := h
    rfl
  · obtain ⟨m, ts, ord, com, z, rfl, hM, hzz, k⟩ := h
    obtain ⟨dx, b, r, c, hm, hL, ⟨zs, hz, hzs⟩, hc⟩ := hM.ex
    refine ⟨_, pss_cons (ps_asg (pe_cm GS T.cM hr (by decide) (pv 0) (pa_cons (pv 1) pa_nil)) (pg_tup rfl (pgs_cons (pg_name (i := 2) scMm.nd rfl (Or.inl rfl)) (pgs_cons (pg_name (i := 3) scMm.nd rfl (Or.inl rfl)) pgs_nil))))
      (pss_one (ps_ret (pe_op op_sub (pv 3) (pv 2)))), ?_⟩
    refine ⟨_, rfl, m, dx, _, rfl, hm, mf_no _ _ _ (by decide +kernel) (by decide +kernel) (by decide +kernel), _, rfl, m, ts, ord, com, z, rfl, hM, hzz, fun H1 t first behind s1 e1 S => ?_⟩
    refine ⟨t, _, rfl, SqT.of e1, rfl, _, _, rfl, _, _, rfl, rfl, ?_⟩
    refine ⟨_, rfl, _, rfl, _, _, rfl, rfl, ?_⟩
    show Q (.int ((behind : Int) - (first : Int))) H1
    have h1 := S.cnt hM.isOrd
    have h2 := S.le
    rw [show (behind : Int) - (first : Int) = ((behind - first : Nat) : Int) by omega, h1]
    exact k _ s1
abbrev sMa : Stmt := inClass (top 31) 5
abbrev NMa : List Str := ["self", "places", "found", "text", "at", "sign"]
theorem scMa : FnScope NMa ["self", "places"] (defScope sMa) := ⟨rfl, rfl, rfl, by decide +kernel, rfl, by decide +kernel, by decide +kernel⟩
theorem ok_ahead (T : Txt K mg CL CM CC) (D : Dm K CM "sign_ahead" "Maker.sign_ahead" sMa ["self", "places"]) : Cm P w K mg base 1 CM "sign_ahead" (spAhead CL CM) := by
  refine D.ok scMa (fun vs H Q E h => ?_) (fun f cdv A outer s H vs Q E hr h => ?_)
  · obtain ⟨m, l, ts, ord, com, ps, rfl, _⟩ := h
    rfl
  · obtain ⟨m, l, ts, ord, com, ps, rfl, hM, ⟨zs, hz, hzs⟩, hall, hne, hlen, k⟩ := h
    obtain ⟨dx, b, r, c, hm, ⟨t, dl, hb, ht⟩, hR, hc⟩ := hM.ex
    have hzl : zs.length = ps.length := by rw [← hzs, List.length_map]
    refine ⟨_, pss_cons (ps_set (i := 2) scMa.nd rfl (Or.inr rfl) (pe_lc (own := [("text", 3), ("at", 4)]) (g := gTup K 2 (gCons (gName 3) (gCons (gName 4) gNil))) (tt := tYes) rfl scMa.nd (pi_list (pv 1)) (blkOk_by (N := NMa) (sc := defScope sMa) (by decide +kernel))
          (fun _ _ _ _ _ => pg_tupK (K := K) rfl rfl (pgs_cons (pg_name (i := 3) scMa.nd rfl (Or.inl rfl)) (pgs_cons (pg_name (i := 4) scMa.nd rfl (Or.inl rfl)) pgs_nil))) (fun _ _ _ _ _ => pts_nil)
          (fun _ _ _ _ _ => pe_ifExp (pt_cmpR op_gt (pv 4) pe_int (nomark _)) (pe_ix ix_str (px_ixT (K := K) rfl (px_fld (K := K) rfl (px_fld (K := K) rfl (pv 0) rfl) rfl) (pv 3) (fun _ _ => rfl)) (pe_op op_sub (pv 4) pe_int) (fun _ _ => rfl)) pe_non)))
      (pss_one (ps_ret (pe_ifExp (pt_val (pe_callB (cr_all rfl) (by rfl) T.all (by decide +kernel) (pa_cons (pe_lc (own := [("sign", 5)]) (g := gName 5) (tt := tYes) rfl scMa.nd (pi_list (pv 2)) (blkOk_by (N := NMa) (sc := defScope sMa) (by decide +kernel))
          (fun _ _ _ _ _ => pg_name (i := 5) scMa.nd rfl (Or.inl rfl)) (fun _ _ _ _ _ => pts_nil) (fun _ _ _ _ _ => pe_cmpR op_eq (pv 5) (px_ixL (K := K) rfl (pv 2) pe_int (fun _ _ => rfl)) (nomark _))) pa_nil))) (pe_ix ix_list (pv 2) pe_int (fun _ _ => rfl)) pe_non))), ?_⟩
    refine ⟨_, rfl, l, rfl, ⟨_, SqL.of hz.1⟩, fun F hF => lc_it (walk_list (K := K) (xs := zs.map fun z => V.ref z.1)) (fun i H' => Same H H' ∧ H' F = some (.lst (((ps.take i).map (ah ts)).map sgV))) ⟨put (Same.refl H) hF, upd_same⟩ (fun i H' _ ⟨s3, _⟩ => SqL.of (s3 _ _ hz.1)) ?_ ?_⟩
    · rintro i y H3 H4 hi ⟨s3, e4⟩ ⟨rfl, hy⟩
      obtain ⟨z, h1, rfl⟩ := at_map hy
      have hmem := List.mem_of_getElem? h1
      have hp : ps[i]? = some z.2 := by rw [← hzs, List.getElem?_map, h1]; rfl
      have hpa := hall _ (List.mem_of_getElem? hp)
      have hq : ts[z.2.1]? = some (tx ts z.2.1) := by
        have := in_few hpa
        rw [List.getElem?_eq_getElem this, tx_of (List.getElem?_eq_getElem this)]
      have fin : ∀ v, v = sgV (ah ts z.2) → ∃ acc, H4 F = some (.lst acc) ∧ acc.length < sizeLine ∧ Same H (upd H4 F (.lst (acc ++ [v]))) ∧ (upd H4 F (.lst (acc ++ [v]))) F = some (.lst (((ps.take (i + 1)).map (ah ts)).map sgV)) := fun v hv => by
        refine ⟨_, e4, ?_, put s3 hF, ?_⟩
        · rw [List.length_map, List.length_map, List.length_take]
          exact line1 (by omega)
        · rw [upd_same, List.take_add_one, hp, List.map_append, List.map_append, hv]
          rfl
      refine ⟨_, _, rfl, SqT.of (s3 _ _ (hz.2 z hmem)), rfl, _, _, rfl, _, _, rfl, rfl, rfl, ?_⟩
      refine ⟨_, rfl, _, _, rfl, rfl, _, rfl, ?_⟩
      refine ite2 (fun q => ?_) (fun q => ?_)
      · have q : (0 : Int) < (z.2.2 : Nat) := of_decide_eq_true q
        have h2 := mem_allP.mp hpa
        have h3 : (tx ts z.2.1)[z.2.2 - 1]? = some ((tx ts z.2.1)[z.2.2 - 1]'(by omega)) := List.getElem?_eq_getElem (by omega)
        generalize (tx ts z.2.1)[z.2.2 - 1]'(by omega) = c at h3
        refine ⟨_, rfl, m, CM, dx, _, _, rfl, s3 _ _ hm, T.cM, T.nS, mf_s _ _ _, b, CL, dl, _, _, rfl, s3 _ _ hb, T.cL, T.nT, lk_one, _, rfl, t, _, _, _, rfl, rfl, SqT.of (s3 _ _ ht), atI_nat (j := z.2.1) (by rw [List.getElem?_map, hq]; rfl), ?_⟩
        refine ⟨_, rfl, _, _, rfl, rfl, _, _, c, rfl, rfl, by rw [S_len]; exact line2 (Nat.le_trans (hM.good.tx _) (by decide)), ?_, fin _ ?_⟩
        · rw [show ((z.2.2 : Nat) : Int) - 1 = ((z.2.2 - 1 : Nat) : Int) by omega]
          exact atI_nat h3
        · unfold ah
          rw [if_neg (by omega), h3]
          rfl
      · have q : ¬ (0 : Int) < (z.2.2 : Nat) := fun t => q (decide_eq_true t)
        refine fin _ ?_
        unfold ah
        rw [if_pos (by omega)]
        rfl
    rintro H1 ⟨s1, e1⟩
    rw [List.length_map, hzl, List.take_length] at e1
    have h0 : (ps.map (ah ts))[0]? = some ((ps.map (ah ts)).getD 0 none) := by
      rw [List.getD_eq_getElem?_getD, List.getElem?_eq_getElem (by rw [List.length_map]; exact List.length_pos_iff.mpr hne)]; rfl
    generalize (ps.map (ah ts)).getD 0 none = a at h0
    have hat : atI ((ps.map (ah ts)).map sgV) (0 : Int) = some (sgV a) := atI_nat (j := 0) (by rw [List.getElem?_map, h0]; rfl)
    refine ⟨_, rfl, F, rfl, ⟨_, SqL.of e1⟩, fun L hL2 => lc_it (walk_list (K := K) (xs := (ps.map (ah ts)).map sgV)) (fun i H' => Same H1 H' ∧ H' L = some (.lst ((((ps.map (ah ts)).take i).map fun x => x == a).map V.bl))) ⟨put (Same.refl H1) hL2, upd_same⟩ (fun i H' _ ⟨s3, _⟩ => SqL.of (s3 _ _ e1)) ?_ ?_⟩
    · rintro i y H3 H4 hi ⟨s3, e4⟩ ⟨rfl, hy⟩
      obtain ⟨x, hx, rfl⟩ := at_map hy
      refine ⟨rfl, _, rfl, _, rfl, F, _, _, _, rfl, rfl, SqL.of (s3 _ _ e1), hat, sgV_scal _ _, _, e4, ?_, put s3 hL2, ?_⟩
      · rw [List.length_map, List.length_map, List.length_take, List.length_map]
        exact line1 (by omega)
      · rw [upd_same, List.take_add_one, hx, List.map_append, List.map_append, sgV_dec]
        rfl
    rintro H3 ⟨s3, e3⟩
    rw [List.take_of_length_le (by rw [List.length_map (as := (ps.map (ah ts)))]; exact Nat.le_refl _)] at e3
    refine ⟨_, _, rfl, SqL.of e3, _, rfl, ?_⟩
    have hs := saf_head h0
    refine ite2 (fun q => ?_) (fun q => ?_)
    · rw [if_pos q] at hs
      rw [hs] at k
      exact ⟨_, rfl, F, _, _, _, rfl, rfl, SqL.of (s3 _ _ e1), hat, k _ (s1.trans s3)⟩
    · rw [if_neg q] at hs
      rw [hs] at k
      exact k _ (s1.trans s3)
abbrev sMb : Stmt := inClass (top 31) 6
abbrev NMb : List Str := ["self", "span", "first", "behind", "signs"]
theorem scMb : FnScope NMb ["self", "span"] (defScope sMb) := ⟨rfl, rfl, rfl, by decide +kernel, rfl, by decide +kernel, by decide +kernel⟩
theorem ok_behind (T : Txt K mg CL CM CC) (D : Dm K CM "grown_behind" "Maker.grown_behind" sMb ["self", "span"]) (GE : Cd P w K mg base 1 "ending_at" (spEnd CL)) : Cm P w K mg base 2 CM "grown_behind" (spBehind CL CM) := by
  refine D.ok scMb (fun vs H Q E h => ?_) (fun f cdv A outer s H vs Q E hr h => ?_)
  · obtain ⟨m, t, ts, ord, com, z, first, behind, rfl, _⟩ := h
    rfl
  · obtain ⟨m, t, ts, ord, com, z, first, behind, rfl, hM, hT, S, hlt, k⟩ := h
    obtain ⟨dx, b, r, c, hm, hL, ⟨zs, hz, hzs⟩, hc⟩ := hM.ex
    have O := hM.isOrd
    have hn := hM.few
    have hle2 := S.le2
    refine ⟨_, pss_cons (ps_asg (pv 1) (pg_tup rfl (pgs_cons (pg_name (i := 2) scMb.nd rfl (Or.inl rfl)) (pgs_cons (pg_name (i := 3) scMb.nd rfl (Or.inl rfl)) pgs_nil))))
      (pss_cons (ps_set (i := 4) scMb.nd rfl (Or.inl rfl) (pe_cd GE hr (by decide) (by rfl) (pa_cons (pe_fld (pv 0) rfl) (pa_cons (pe_ix ix_list (pe_fld (pv 0) rfl) (pv 2) (fun _ _ => rfl)) pa_nil))))
      (pss_cons (ps_if (pt_cmpR op_eq (pe_op op_sub (pv 3) (pv 2)) pe_int (nomark _)) (pss_one (ps_ret (pv 4))) pss_nil)
      (pss_one (ps_ret (pe_slice sl_str (pv 4) po_none (po_some (pe_callB (cr_min rfl) (by rfl) T.min (by decide +kernel) (pa_cons (pe_slice sl_list (pe_fld (pv 0) rfl) (po_some (pe_op op_add (pv 2) pe_int)) (po_some (pv 3))) pa_nil)))))))), ?_⟩
    have ho : ord[first]? = some (ord[first]'(by omega)) := List.getElem?_eq_getElem (by omega)
    generalize ord[first]'(by omega) = p at ho
    obtain ⟨x, hx, hxp, hat⟩ := hz.at (i := first) (p := p) (by rw [hzs]; exact ho)
    refine ⟨_, rfl, t, _, rfl, SqT.of hT, rfl, _, _, rfl, _, _, rfl, rfl, ?_⟩
    refine ⟨_, rfl, m, CM, dx, _, _, rfl, hm, T.cM, T.nS, mf_s _ _ _, _, rfl, m, CM, dx, _, _, rfl, hm, T.cM, T.nR, mf_r _ _ _, _, rfl, r, _, _, _, rfl, rfl, SqL.of hz.1, hat, b, x, ts, p, rfl, hL, hM.good, hxp, in_few (O.at ho), ?_⟩
    refine ⟨_, rfl, _, rfl, _, _, rfl, rfl, rfl, _, rfl, ?_⟩
    rw [dec_int]
    refine ite2 (fun q => ?_) (fun q => ?_)
    · have q := eq_of_beq q
      obtain rfl : behind = first + 1 := by omega
      exact ⟨_, rfl, k _ _ (Same.refl H) (behind_one O S ho)⟩
    · have q : behind ≠ first + 1 := fun e => q (by subst e; rw [beq_iff_eq]; omega)
      refine ⟨_, rfl, _, rfl, m, CM, dx, _, _, rfl, hm, T.cM, T.nC, mf_c _ _ _, _, rfl, _, _, rfl, rfl, _, rfl, _, rfl, _, rfl, c, _, rfl, SqL.of hc, fun l hl => ?_⟩
      have hcl : com.length = ord.length := hM.isCom.len
      refine ⟨l, ((com.take behind).drop (first + 1)).map fun c : Nat => ((c : Nat) : Int), rfl, SqL.of ?_, ?_, fun mn hmn hle => ?_⟩
      · rw [upd_same, show (first : Int) + 1 = ((first + 1 : Nat) : Int) by omega, cutV_both, List.map_map]
        rfl
      · rw [List.length_map, List.length_drop, List.length_take]
        omega
      · obtain ⟨kk, hkk, rfl⟩ := List.mem_map.mp hmn
        refine ⟨_, rfl, _, rfl, by rw [S_len]; exact line2 (Nat.le_trans (suf_le hM.good _) (by decide)), ?_⟩
        show Q (.str (cutS (Ep.S (suf ts p)) none (some (kk : Nat)))) _
        rw [cut_to]
        have ix : ∀ i, ((com.take behind).drop (first + 1))[i]? = if first + 1 + i < behind then com[first + 1 + i]? else none := fun i => by
          rw [List.getElem?_drop, List.getElem?_take]
        refine k _ _ (put (Same.refl H) hl) (behind_more O hM.isCom S ho (by omega) ?_ fun j c' h1 h2 h3 => ?_)
        · obtain ⟨i, hi⟩ := List.getElem?_of_mem hkk
          rw [ix] at hi
          by_cases h : first + 1 + i < behind
          · rw [if_pos h] at hi
            exact ⟨_, by omega, h, hi⟩
          · rw [if_neg h] at hi
            cases hi
        · have h4 : ((com.take behind).drop (first + 1))[j - (first + 1)]? = some c' := by
            rw [ix, show first + 1 + (j - (first + 1)) = j by omega, if_pos h2]
            exact h3
          have := hle _ (List.mem_map_of_mem (f := fun c : Nat => ((c : Nat) : Int)) (List.mem_of_getElem? h4))
          have this : (kk : Int) ≤ (c' : Int) := this
          omega
end
end Ep
end
section
set_option linter.all false
set_option maxRecDepth 100000
/-! EpW9: the walks of Maker's grown, candidates. -/
namespace Ep
open PySem PySem.W PySem.Calls PyProof.Rows L2 EP EpR
def WIO (g : Wd) (k : Nat) : HO := .tup [VS g, .int (k : Nat)]
def IsGrown (ts : List Wd) (z : Wd) (H : Hp) (v : V) : Prop := (v = .non ∧ occ ts z = []) ∨ ∃ T g k, v = .ref T ∧ H T = some (WIO g k) ∧ Grown ts z g k
def spMGrown (CL CM : Addr) : Sp := fun vs H Q _ => ∃ (m : Addr) (ts : List Wd) (ord : List Pl) (com : List Nat) (z : Wd), vs = [.ref m, VS z] ∧ MakAt CL CM H m ts ord com ∧ z.length ≤ 2000 ∧ ∀ H' v, Same H H' → IsGrown ts z H' v → Q v H'
def spCands (CL CM : Addr) : Sp := fun vs H Q _ => ∃ (m : Addr) (ts : List Wd) (ord : List Pl) (com : List Nat), vs = [.ref m] ∧ MakAt CL CM H m ts ord com ∧ ∀ H' l Cs, Same H H' → H' l = some (.lst (Cs.map VS)) → IsCand ts ord com Cs → Cs.Nodup → Cs.length ≤ 4000 → Q (.ref l) H'
theorem suf_cons {ts : List Wd} {a j c : Nat} (h : (tx ts a)[j]? = some c) : suf ts (a, j) = c :: suf ts (a, j + 1) := by
  obtain ⟨h1, h2⟩ := List.getElem?_eq_some_iff.mp h
  unfold suf
  rw [List.drop_eq_getElem_cons h1, h2]
def back (k : Nat) (p : Pl) : Pl := (p.1, p.2 - k)
theorem ah_some {ts : List Wd} {p : Pl} {c : Nat} (h : ah ts p = some c) : 0 < p.2 ∧ (tx ts p.1)[p.2 - 1]? = some c := by
  unfold ah at h
  by_cases h0 : p.2 = 0
  · rw [if_pos h0] at h; cases h
  · rw [if_neg h0] at h; exact ⟨by omega, h⟩
/-- what the dict of candidates holds -/
def trF (ks : List Wd) : List (Key × V) := ks.map fun z => (kT z, .bl true)
def addW (ks : List Wd) (z : Wd) : List Wd := if z ∈ ks then ks else ks ++ [z]
theorem trF_val (z : Wd) : ∀ ks : List Wd, valV (trF ks) (kT z) = if z ∈ ks then some (.bl true) else none
  | [] => rfl
  | y :: ks => by
    unfold trF
    rw [List.map_cons]
    by_cases h : y = z
    · subst h
      rw [valV_pos rfl, if_pos List.mem_cons_self]
    · rw [valV_neg (fun e => h (kT_inj _ _ e))]
      have ih := trF_val z ks
      unfold trF at ih
      rw [ih]
      by_cases hm : z ∈ ks
      · rw [if_pos hm, if_pos (List.mem_cons_of_mem _ hm)]
      · rw [if_neg hm, if_neg (by rw [List.mem_cons]; exact fun t => t.elim (fun e => h e.symm) hm)]
theorem trF_put (ks : List Wd) (z : Wd) : putK (trF ks) (kT z) (.bl true) = trF (addW ks z) := by
  unfold addW
  by_cases h : z ∈ ks
  · rw [if_pos h]
    unfold putK
    rw [valV_any, trF_val, if_pos h]
    refine Eq.trans (if_pos rfl) ?_
    unfold trF
    rw [List.map_map]
    refine List.map_congr_left fun y _ => ?_
    show (if kT y = kT z then (kT y, V.bl true) else (kT y, V.bl true)) = _
    split <;> rfl
  · rw [if_neg h, putK_new _ (by rw [trF_val, if_neg h])]
    unfold trF
    rw [List.map_append]
    rfl
theorem addW_mem {ks : List Wd} {z v : Wd} : v ∈ addW ks z ↔ v ∈ ks ∨ v = z := by
  unfold addW
  by_cases h : z ∈ ks
  · rw [if_pos h]
    exact ⟨.inl, fun t => t.elim id fun e => by rw [e]; exact h⟩
  · rw [if_neg h, List.mem_append, List.mem_singleton]
theorem addW_nd {ks : List Wd} {z : Wd} (h : ks.Nodup) : (addW ks z).Nodup := by
  unfold addW
  by_cases hz : z ∈ ks
  · rw [if_pos hz]; exact h
  · rw [if_neg hz]
    refine List.nodup_append.mpr ⟨h, by simp, fun a ha b hb => ?_⟩
    rw [List.mem_singleton.mp hb]
    exact fun e => hz (by rw [← e]; exact ha)
theorem addW_len (ks : List Wd) (z : Wd) : (addW ks z).length ≤ ks.length + 1 := by
  unfold addW
  by_cases hz : z ∈ ks
  · rw [if_pos hz]; omega
  · rw [if_neg hz, List.length_append, List.length_singleton]; omega
section
variable {P : Program} {w : World} {K : PySem.W.Frag} {mg : Str → Option Value} {base : Heap} {CL CM CC : Addr}
abbrev sMg : Stmt := inClass (top 31) 7
abbrev NMg : List Str := ["self", "word", "span", "found", "places", "offset", "sign", "text", "at"]
theorem scMg : FnScope NMg ["self", "word"] (defScope sMg) := ⟨rfl, rfl, rfl, by decide +kernel, rfl, by decide +kernel, by decide +kernel⟩
theorem ok_mgrown (T : Txt K mg CL CM CC) (D : Dm K CM "grown" "Maker.grown" sMg ["self", "word"]) (GS : Cm P w K mg base 3 CM "span" (spSpan CL CM)) (GB : Cm P w K mg base 2 CM "grown_behind" (spBehind CL CM)) (GA : Cm P w K mg base 1 CM "sign_ahead" (spAhead CL CM)) : Cm P w K mg base 4 CM "grown" (spMGrown CL CM) := by
  refine D.ok scMg (fun vs H Q E h => ?_) (fun f cdv A outer s H vs Q E hr h => ?_)
  · obtain ⟨m, ts, ord, com, z, rfl, _⟩ := h
    rfl
  · obtain ⟨m, ts, ord, com, z, rfl, hM, hzz, k⟩ := h
    obtain ⟨dx, b, r, c, hm, hL, ⟨zs, hz, hzs⟩, hc⟩ := hM.ex
    have O := hM.isOrd
    have hn := hM.few
    have noM : ∀ x : Str, ¬ x = "commons" → ¬ x = "ranked" → ¬ x = "source" → (mf b r c).lookup x = none := fun x h1 h2 h3 => mf_no _ _ _ h1 h2 h3
    refine ⟨_, pss_cons (ps_set (i := 2) scMg.nd rfl (Or.inl rfl) (pe_cm GS T.cM hr (by decide) (pv 0) (pa_cons (pv 1) pa_nil)))
      (pss_cons (ps_if (pt_cmpR op_eq (pe_ix ix_tup (pv 2) pe_int (fun _ _ => rfl)) (pe_ix ix_tup (pv 2) pe_int (fun _ _ => rfl)) (nomark _)) (pss_one (ps_ret pe_non)) pss_nil)
      (pss_cons (ps_set (i := 3) scMg.nd rfl (Or.inl rfl) (pe_cm GB T.cM hr (by decide) (pv 0) (pa_cons (pv 2) pa_nil)))
      (pss_cons (ps_set (i := 4) scMg.nd rfl (Or.inl rfl) (pe_slice sl_list (pe_fld (pv 0) rfl) (po_some (pe_ix ix_tup (pv 2) pe_int (fun _ _ => rfl))) (po_some (pe_ix ix_tup (pv 2) pe_int (fun _ _ => rfl)))))
      (pss_cons (ps_set (i := 5) scMg.nd rfl (Or.inl rfl) pe_int)
      (pss_cons (ps_set (i := 6) scMg.nd rfl (Or.inl rfl) (pe_cm GA T.cM hr (by decide) (pv 0) (pa_cons (pv 4) pa_nil)))
      (pss_cons (ps_while PassesOwn.never (pt_cmpR op_notN (pv 6) pe_non (nomark _))
        (pss_cons (ps_set (i := 3) scMg.nd rfl (Or.inl rfl) (pe_op op_add_str (pv 6) (pv 3)))
        (pss_cons (ps_setLc (i := 4) (own := [("text", 7), ("at", 8)]) (g := gTup K 2 (gCons (gName 7) (gCons (gName 8) gNil))) (tt := tYes) rfl scMg.nd rfl rfl (sw_true rfl rfl rfl (by decide +kernel)) (pi_list (pv 4)) (blkOk_by (N := NMg) (sc := defScope sMg) (by decide +kernel))
          (fun _ _ _ _ _ => pg_tupK (K := K) rfl rfl (pgs_cons (pg_name (i := 7) scMg.nd rfl (Or.inl rfl)) (pgs_cons (pg_name (i := 8) scMg.nd rfl (Or.inl rfl)) pgs_nil))) (fun _ _ _ _ _ => pts_nil)
          (fun _ _ _ _ _ => pe_tup (pa_cons (pv 7) (pa_cons (pe_op op_sub (pv 8) pe_int) pa_nil))))
        (pss_cons (ps_aug (i := 5) scMg.nd rfl (Or.inl rfl) pe_int ip_add)
        (pss_one (ps_set (i := 6) scMg.nd rfl (Or.inl rfl) (pe_cm GA T.cM hr (by decide) (pv 0) (pa_cons (pv 4) pa_nil))))))))
      (pss_one (ps_ret (pe_tup (pa_cons (pv 3) (pa_cons (pv 5) pa_nil))))))))))), ?_⟩
    refine ⟨_, rfl, m, dx, _, rfl, hm, mf_no _ _ _ (by decide +kernel) (by decide +kernel) (by decide +kernel), _, rfl, m, ts, ord, com, z, rfl, hM, hzz, fun H1 t first behind s1 e1 S => ?_⟩
    refine ⟨_, rfl, t, _, _, _, rfl, rfl, SqT.of e1, atI_nat (j := 0) rfl, _, rfl, t, _, _, _, rfl, rfl, SqT.of e1, atI_nat (j := 1) rfl, rfl, _, rfl, ?_⟩
    have hcnt := S.cnt O
    rw [dec_int]
    refine ite2 (fun q => ?_) (fun q => ?_)
    · have q := eq_of_beq q
      refine k H1 .non s1 (.inl ⟨rfl, ?_⟩)
      have h0 : EP.cnt ts z = 0 := by omega
      exact List.length_eq_zero_iff.mp h0
    have hlt : first < behind := by
      have := S.le
      refine Nat.lt_of_le_of_ne this fun e => q ?_
      rw [e, beq_iff_eq]
    have hM1 := hM.same s1
    refine ⟨_, rfl, m, dx, _, rfl, s1 _ _ hm, mf_no _ _ _ (by decide +kernel) (by decide +kernel) (by decide +kernel), _, rfl, m, t, ts, ord, com, z, first, behind, rfl, hM1, e1, S, hlt, fun H2 g0 s2 B => ?_⟩
    have s12 := s1.trans s2
    have hz2 := hz.same s12
    refine ⟨_, rfl, m, CM, dx, _, _, rfl, s12 _ _ hm, T.cM, T.nR, mf_r _ _ _, _, rfl, t, _, _, _, rfl, rfl, SqT.of (s2 _ _ e1), atI_nat (j := 0) rfl, _, rfl, _, rfl, t, _, _, _, rfl, rfl, SqT.of (s2 _ _ e1), atI_nat (j := 1) rfl, _, rfl, r, _, rfl, SqL.of hz2.1, fun l hl => ?_⟩
    have s3 : Same H2 (upd H2 l (.lst (cutV (zs.map fun z => V.ref z.1) (some (first : Nat)) (some (behind : Nat))))) := put (Same.refl _) hl
    have s13 := s12.trans s3
    have hps : (((zs.take behind).drop first).map Prod.snd).Perm (occ ts z) := by
      rw [List.map_drop, List.map_take, hzs]
      exact S.perm O
    have hZ : ZL (upd H2 l (.lst (cutV (zs.map fun z => V.ref z.1) (some (first : Nat)) (some (behind : Nat))))) l ((zs.take behind).drop first) :=
      ⟨by rw [upd_same, cutV_both], fun x hx => s3 _ _ (hz2.2 x (mem_part hx))⟩
    generalize hpsd : ((zs.take behind).drop first).map Prod.snd = ps at hps
    have hocc : ∀ p, p ∈ ps ↔ p ∈ occ ts z := fun p => hps.mem_iff
    have hpiece : occ ts z ≠ [] := fun e => by
      have h0 : EP.cnt ts z = 0 := by unfold EP.cnt; rw [e]; rfl
      omega
    have hpne : ps ≠ [] := fun e => hpiece (by rw [e] at hps; exact List.perm_nil.mp hps.symm)
    have hpl : ps.length ≤ 2000 := by
      rw [hps.length_eq]
      exact Nat.le_trans (List.length_filter_le _ _) hM.good.all
    have hback : ∀ kk, ∀ p ∈ ps.map (back kk), p ∈ allP ts := fun kk p hp => by
      obtain ⟨q, hq, rfl⟩ := List.mem_map.mp hp
      have h1 := mem_allP.mp (mem_occ.mp ((hocc q).mp hq)).1
      refine mem_allP.mpr ?_
      show q.2 - kk < (tx ts q.1).length
      omega
    have hb0 : ps.map (back 0) = ps := by
      have : (back 0) = id := by funext p; rfl
      rw [this, List.map_id]
    refine ⟨_, rfl, m, dx, _, rfl, s13 _ _ hm, mf_no _ _ _ (by decide +kernel) (by decide +kernel) (by decide +kernel), _, rfl, m, l, ts, ord, com, ps, rfl, hM.same s13, ⟨_, hZ, hpsd⟩, fun p hp => hback 0 p (by rw [hb0]; exact hp), hpne, hpl, fun H4 s4 => ?_⟩
    have gl : ∀ {g : Wd} {kk : Nat}, (∀ p ∈ occ ts z, kk ≤ p.2 ∧ g <+: suf ts (back kk p)) → g.length ≤ 2000 := fun {g kk} h => by
      obtain ⟨p, hp⟩ := occ_ne hpiece
      exact Nat.le_trans (h p hp).2.length_le (suf_le hM.good _)
    refine while_by (fun σ H' => ∃ (t l : Addr) (g : Wd) (kk : Nat), σ = [some (.ref m), some (VS z), some (.ref t), some (VS g), some (.ref l), some (.int (kk : Nat)), some (sgV (saf ((ps.map (back kk)).map (ah ts)))), none, none] ∧ Same H H' ∧ PL H' l (ps.map (back kk)) ∧
        (∀ p ∈ occ ts z, kk ≤ p.2 ∧ g <+: suf ts (back kk p)) ∧ (∀ c, ¬ ∀ p ∈ occ ts z, (g ++ [c]) <+: suf ts (back kk p)) ∧ kk + z.length ≤ g.length)
      (fun σ _ => muC 2000 5 σ) ⟨t, l, g0, 0, by rw [hb0]; rfl, s13.trans s4, by rw [hb0]; exact ⟨_, hZ.same s4, hpsd⟩, fun p hp => ⟨Nat.zero_le _, B.stands p hp⟩, B.right, by rw [Nat.zero_add]; exact B.pre.length_le⟩ ?_ ?_
    · rintro σ H5 ⟨t, l, g, kk, rfl, s5, ⟨ys, hys, eys⟩, st, rt, lg⟩
      refine ⟨_, rfl, rfl, _, rfl, ?_⟩
      cases hs : saf ((ps.map (back kk)).map (ah ts)) with
      | none =>
        refine iteF ?_
        refine ⟨_, rfl, _, rfl, by show 2 ≤ sizeLine; decide, fun T hT => k _ _ (put s5 (s5.free hT)) (.inr ⟨T, g, kk, rfl, upd_same, ⟨hpiece, st, fun c h => ?_, rt, lg⟩⟩)⟩
        have : saf ((ps.map (back kk)).map (ah ts)) = some c := saf_ah.mpr ⟨fun e => hpne (List.map_eq_nil_iff.mp e), fun p hp => by
          obtain ⟨q, hq, rfl⟩ := List.mem_map.mp hp
          exact h q ((hocc q).mp hq)⟩
        rw [hs] at this
        cases this
      | some c =>
        refine iteT ?_
        have hall := (saf_ah.mp hs).2
        have hstep : ∀ p ∈ occ ts z, kk + 1 ≤ p.2 ∧ suf ts (back (kk + 1) p) = c :: suf ts (back kk p) := fun p hp => by
          obtain ⟨h1, h2⟩ := ah_some (hall (back kk p) (List.mem_map_of_mem ((hocc p).mpr hp)))
          have h1 : 0 < p.2 - kk := h1
          have h2 : (tx ts p.1)[p.2 - kk - 1]? = some c := h2
          refine ⟨by omega, ?_⟩
          have h3 := suf_cons h2
          rw [show p.2 - kk - 1 + 1 = p.2 - kk by omega] at h3
          exact h3
        refine ⟨_, rfl, _, rfl, _, _, rfl, rfl, ?_, ?_⟩
        · rw [S_len, S_len]
          have := gl st
          exact line2 (by show 1 + g.length ≤ _; omega)
        have hyl : ys.length = ps.length := by have := congrArg List.length eys; rw [List.length_map, List.length_map] at this; exact this
        refine ⟨_, rfl, l, rfl, ⟨_, SqL.of hys.1⟩, fun L hL2 => lc_it (walk_list (K := K) (xs := ys.map fun z => V.ref z.1)) (fun i H' => ∃ ws, Same H5 H' ∧ ZL H' L ws ∧ ws.map Prod.snd = (ps.take i).map (back (kk + 1))) ⟨[], put (Same.refl _) hL2, ZL.nil, rfl⟩ (fun i H' _ ⟨_, s6, _⟩ => SqL.of (s6 _ _ hys.1)) ?_ ?_⟩
        · rintro i y H6 H7 hi ⟨ws, s6, hws, ews⟩ ⟨rfl, hy⟩
          obtain ⟨x, h1, rfl⟩ := at_map hy
          have hmem := List.mem_of_getElem? h1
          have hp : (ps.map (back kk))[i]? = some x.2 := by rw [← eys, List.getElem?_map, h1]; rfl
          obtain ⟨p, hp1, hp2⟩ := at_map hp
          have hpo := (hocc p).mp (List.mem_of_getElem? hp1)
          have hpk := (hstep p hpo).1
          refine ⟨_, _, rfl, SqT.of (s6 _ _ (hys.2 x hmem)), rfl, _, _, rfl, _, _, rfl, rfl, rfl, ?_⟩
          have hwl : ws.length ≤ ps.length := by have := congrArg List.length ews; rw [List.length_map, List.length_map, List.length_take] at this; omega
          refine ⟨_, rfl, _, rfl, _, _, rfl, rfl, by show 2 ≤ sizeLine; decide, fun a ha => ?_⟩
          refine ⟨_, upd_eq hws.1 ha, ?_, ws ++ [(a, back (kk + 1) p)], put (put s6 (s6.free ha)) hL2, ZL.snoc ?_ hws ha, ?_⟩
          · rw [List.length_map]
            exact line1 (by omega)
          · show HO.tup [V.int (x.2.1 : Nat), V.int (((x.2.2 : Nat) : Int) - 1)] = HO.tup [V.int (p.1 : Nat), V.int ((p.2 - (kk + 1) : Nat) : Int)]
            have e1 : x.2.1 = p.1 := by rw [← hp2]; rfl
            have e2 : x.2.2 = p.2 - kk := by rw [← hp2]; rfl
            rw [e1, e2, show ((p.2 - kk : Nat) : Int) - 1 = ((p.2 - (kk + 1) : Nat) : Int) by omega]
          · rw [List.map_append, ews, List.take_add_one, hp1, List.map_append]
            rfl
        · rintro H6 ⟨ws, s6, hws, ews⟩
          rw [List.length_map, hyl, List.take_length] at ews
          have s56 := s5.trans s6
          refine ⟨_, rfl, _, _, rfl, rfl, ?_⟩
          refine ⟨_, rfl, m, dx, _, rfl, s56 _ _ hm, mf_no _ _ _ (by decide +kernel) (by decide +kernel) (by decide +kernel), _, rfl, m, L, ts, ord, com, ps.map (back (kk + 1)), rfl, hM.same s56, ⟨ws, hws, ews⟩, hback _, fun e => hpne (List.map_eq_nil_iff.mp e), by rw [List.length_map]; exact hpl, fun H7 s7 => ?_⟩
          refine ⟨⟨t, L, c :: g, kk + 1, ?_, s56.trans s7, PL.same s7 ⟨ws, hws, ews⟩, fun p hp => ⟨(hstep p hp).1, ?_⟩, fun d h => ?_, ?_⟩, ?_⟩
          · show [_, _, _, some (V.str (Ep.S [c] ++ Ep.S g)), _, _, _, _, _] = _
            rw [S_app]
            rfl
          · rw [(hstep p hp).2]
            exact List.cons_prefix_cons.mpr ⟨rfl, (st p hp).2⟩
          · refine rt d fun p hp => ?_
            have h1 := h p hp
            rw [(hstep p hp).2, List.cons_append] at h1
            exact (List.cons_prefix_cons.mp h1).2
          · rw [List.length_cons]
            omega
          · show ((2000 : Int) - ((kk : Int) + 1)).toNat < ((2000 : Int) - (kk : Int)).toNat
            obtain ⟨p, hp⟩ := occ_ne hpiece
            have h1 := (hstep p hp).1
            have h2 := mem_allP.mp (mem_occ.mp hp).1
            have h3 := hM.good.tx p.1
            omega
    · intro σ H Q Q' hq ⟨v, h1, e1, k, e2, q⟩
      exact ⟨v, h1, e1, k, e2, hq _ _ q⟩
end
end Ep
end
section
set_option linter.all false
set_option maxRecDepth 100000
/-! EpW10: the walks of Maker's candidates, shorter_first. -/
namespace Ep
open PySem PySem.W PySem.Calls PyProof.Rows L2 EP EpR
def spShort : Sp := fun vs H Q _ => ∃ (a : Addr) (ws : List Wd), vs = [.ref a] ∧ H a = some (.lst (ws.map VS)) ∧ ws.Nodup ∧ ws.length ≤ 4000 ∧ (∀ z ∈ ws, z.length ≤ 2000) ∧ ∀ (H' : Hp) (l : Addr) (ys : List Wd), Same H H' → H l = none → H' l = some (.lst (ys.map VS)) → ys.Perm ws → ys.Pairwise slo → Q (.ref l) H'
/-- what the first i places give -/
def CandI (ts : List Wd) (ord : List Pl) (com : List Nat) (i : Nat) (Cs : List Wd) : Prop :=
  ∀ v : Wd, v ∈ Cs ↔ ∃ (j : Nat) (p : Pl), j < i ∧ ord[j]? = some p ∧ (v = suf ts p ∨ ∃ c, com[j]? = some c ∧ 0 < c ∧ v = (suf ts p).take c)
theorem CandI.step {ts : List Wd} {ord : List Pl} {com : List Nat} {i : Nat} {Cs : List Wd} {p : Pl} {c : Nat} (h : CandI ts ord com i Cs) (hp : ord[i]? = some p) (hc : com[i]? = some c) {Ds : List Wd} (hD : ∀ v, v ∈ Ds ↔ v ∈ Cs ∨ v = suf ts p ∨ (0 < c ∧ v = (suf ts p).take c)) : CandI ts ord com (i + 1) Ds := by
  intro v
  rw [hD, h v]
  constructor
  · rintro (⟨j, q, h1, h2, h3⟩ | h1 | ⟨h1, h2⟩)
    · exact ⟨j, q, by omega, h2, h3⟩
    · exact ⟨i, p, by omega, hp, .inl h1⟩
    · exact ⟨i, p, by omega, hp, .inr ⟨c, hc, h1, h2⟩⟩
  · rintro ⟨j, q, h1, h2, h3⟩
    rcases Nat.lt_or_eq_of_le (Nat.le_of_lt_succ h1) with t | t
    · exact .inl ⟨j, q, t, h2, h3⟩
    · subst t
      rw [hp] at h2
      obtain rfl := Option.some.inj h2
      rcases h3 with h3 | ⟨d, h3, h4, h5⟩
      · exact .inr (.inl h3)
      · rw [hc] at h3
        obtain rfl := Option.some.inj h3
        exact .inr (.inr ⟨h4, h5⟩)
section
variable {P : Program} {w : World} {K : PySem.W.Frag} {mg : Str → Option Value} {base : Heap} {CL CM CC : Addr}
abbrev sMc : Stmt := inClass (top 31) 8
abbrev NMc : List Str := ["self", "found", "at", "place", "signs"]
theorem scMc : FnScope NMc ["self"] (defScope sMc) := ⟨rfl, rfl, rfl, by decide +kernel, rfl, by decide +kernel, by decide +kernel⟩
theorem ok_cands (T : Txt K mg CL CM CC) (D : Dm K CM "candidates" "Maker.candidates" sMc ["self"]) (GE : Cd P w K mg base 1 "ending_at" (spEnd CL)) : Cm P w K mg base 2 CM "candidates" (spCands CL CM) := by
  refine D.ok scMc (fun vs H Q E h => ?_) (fun f cdv A outer s H vs Q E hr h => ?_)
  · obtain ⟨m, ts, ord, com, rfl, _⟩ := h
    rfl
  · obtain ⟨m, ts, ord, com, rfl, hM, k⟩ := h
    obtain ⟨dx, b, r, c, hm, hL, ⟨zs, hz, hzs⟩, hc⟩ := hM.ex
    have O := hM.isOrd
    have hn := hM.few
    have hu := hu_of hr
    have hcl : com.length = ord.length := hM.isCom.len
    have hzl : zs.length = ord.length := by rw [← hzs, List.length_map]
    refine ⟨_, pss_cons (ps_set (i := 1) scMc.nd rfl (Or.inl rfl) pe_dnewK)
      (pss_cons (ps_for PassesOwn.never rfl (pi_enum (by rfl) T.enumerate (pa_cons (pe_fld (pv 0) rfl) pa_nil)) (pg_tup rfl (pgs_cons (pg_name (i := 2) scMc.nd rfl (Or.inl rfl)) (pgs_cons (pg_name (i := 3) scMc.nd rfl (Or.inl rfl)) pgs_nil)))
        (pss_cons (ps_set (i := 4) scMc.nd rfl (Or.inl rfl) (pe_cd GE hr (by decide) (by rfl) (pa_cons (pe_fld (pv 0) rfl) (pa_cons (pv 3) pa_nil))))
        (pss_cons (ps_dput hu (pv 1) (pv 4) pe_bl rfl)
        (pss_one (ps_if (pt_cmpR op_gt (pe_ix ix_list (pe_fld (pv 0) rfl) (pv 2) (fun _ _ => rfl)) pe_int (nomark _))
          (pss_one (ps_dput hu (pv 1) (pe_slice sl_str (pv 4) po_none (po_some (pe_ix ix_list (pe_fld (pv 0) rfl) (pv 2) (fun _ _ => rfl)))) pe_bl rfl)) pss_nil)))))
      (pss_one (ps_ret (pe_callB (cr_sortK rfl hr.units) (by rfl) T.sorted (by decide +kernel) (pa_cons (pv 1) pa_nil))))), ?_⟩
    intro d hd
    have s0 : Same H (upd H d (.dK [])) := put (Same.refl H) hd
    refine ⟨_, rfl, m, CM, dx, _, _, rfl, s0 _ _ hm, T.cM, T.nR, mf_r _ _ _, r, _, rfl, SqL.of (s0 _ _ hz.1), for_it (walk_enum (K := K) (a := r) (xs := zs.map fun z => V.ref z.1)) (fun i σ H' => ∃ v1 v2 v3 ks, σ = [some (.ref m), some (.ref d), v1, v2, v3] ∧ Same H H' ∧ H' d = some (.dK (trF ks)) ∧ ks.Nodup ∧ ks.length ≤ 2 * i ∧ CandI ts ord com i ks)
      ⟨none, none, none, [], rfl, s0, upd_same, List.nodup_nil, Nat.zero_le _, fun v => ⟨(fun h => nomatch h), fun ⟨j, p, h, _⟩ => absurd h (Nat.not_lt_zero _)⟩⟩ (fun i σ H' _ ⟨_, _, _, _, _, s1, _⟩ => SqL.of (s1 _ _ hz.1)) ?_ ?_⟩
    · rintro i y σ H1 H2 hi ⟨v1, v2, v3, ks, rfl, s1, e1, nd, kl, ci⟩ ⟨a, y1, y2, rfl, n1, rfl, e2, e3⟩
      obtain ⟨z, h1, rfl⟩ := at_map e3
      obtain rfl := Option.some.inj e2
      have hmem := List.mem_of_getElem? h1
      have hp : ord[i]? = some z.2 := by rw [← hzs, List.getElem?_map, h1]; rfl
      have hi' : i < ord.length := (List.getElem?_eq_some_iff.mp hp).1
      have hci : com[i]? = some (com[i]'(by omega)) := List.getElem?_eq_getElem (by omega)
      generalize com[i]'(by omega) = cc at hci
      have s2 : Same H (upd H1 a (.tup [.int (i : Nat), .ref z.1])) := put s1 (s1.free n1)
      have e1' := upd_eq (a := a) (o := .tup [.int (i : Nat), .ref z.1]) e1 n1
      refine ⟨_, _, rfl, SqT.of upd_same, rfl, _, _, rfl, _, _, rfl, rfl, ?_⟩
      refine ⟨_, rfl, m, CM, dx, _, _, rfl, s2 _ _ hm, T.cM, T.nS, mf_s _ _ _, _, rfl, b, z.1, ts, z.2, rfl, hL.same s2, hM.good, s2 _ _ (hz.2 z hmem), in_few (O.at hp), ?_⟩
      refine ⟨_, rfl, _, rfl, d, _, rfl, DPut.k (k := kT (suf ts z.2)) e1' (by unfold trF; rw [List.length_map]; exact line1 (by omega)), ?_⟩
      rw [trF_put]
      have s3 : Same H (upd (upd H1 a (.tup [.int (i : Nat), .ref z.1])) d (.dK (trF (addW ks (suf ts z.2))))) := put s2 hd
      have kl2 := addW_len ks (suf ts z.2)
      refine ⟨_, rfl, m, CM, dx, _, _, rfl, s3 _ _ hm, T.cM, T.nC, mf_c _ _ _, _, rfl, c, _, _, _, rfl, rfl, SqL.of (s3 _ _ hc), atI_nat (j := i) (by rw [List.getElem?_map, hci]; rfl), _, _, rfl, rfl, _, rfl, ?_⟩
      refine ite2 (fun q => ?_) (fun q => ?_)
      · have q : (0 : Int) < (cc : Nat) := of_decide_eq_true q
        refine ⟨_, rfl, _, rfl, _, rfl, m, CM, dx, _, _, rfl, s3 _ _ hm, T.cM, T.nC, mf_c _ _ _, _, rfl, c, _, _, _, rfl, rfl, SqL.of (s3 _ _ hc), atI_nat (j := i) (by rw [List.getElem?_map, hci]; rfl), _, rfl, _, rfl, by rw [S_len]; exact line2 (Nat.le_trans (suf_le hM.good _) (by decide)), ?_⟩
        rw [cut_to]
        refine ⟨d, _, rfl, DPut.k (k := kT ((suf ts z.2).take cc)) upd_same (by unfold trF; rw [List.length_map]; exact line1 (by omega)), ?_⟩
        rw [trF_put]
        refine ⟨_, _, _, addW (addW ks (suf ts z.2)) ((suf ts z.2).take cc), rfl, put s3 hd, upd_same, addW_nd (addW_nd nd), ?_, ci.step hp hci fun v => ?_⟩
        · have := addW_len (addW ks (suf ts z.2)) ((suf ts z.2).take cc)
          omega
        · rw [addW_mem, addW_mem, or_assoc]
          have : 0 < cc := by omega
          simp [this]
      · have q : ¬ (0 : Int) < (cc : Nat) := fun t => q (decide_eq_true t)
        refine ⟨_, _, _, addW ks (suf ts z.2), rfl, s3, upd_same, addW_nd nd, by omega, ci.step hp hci fun v => ?_⟩
        rw [addW_mem]
        have : ¬ 0 < cc := by omega
        simp [this]
    · rintro σ H1 ⟨v1, v2, v3, ks, rfl, s1, e1, nd, kl, ci⟩
      rw [List.length_map, hzl] at kl ci
      refine ⟨_, rfl, d, _, ks.map Ep.S, rfl, .inl e1, by unfold trF; rw [List.map_map, List.map_map]; rfl, fun ys p hp hs np => ?_⟩
      obtain ⟨Ds, hD, rfl⟩ := perm_back hp (L := ks) rfl
      refine k _ p Ds (put s1 (s1.free np)) (by rw [upd_same, List.map_map]; rfl) (fun v => ?_) (hD.nodup_iff.mpr nd) (by rw [hD.length_eq]; omega)
      rw [hD.mem_iff, ci v]
      constructor
      · rintro ⟨j, q, _, h⟩
        exact ⟨j, q, h⟩
      · rintro ⟨j, q, h, h'⟩
        exact ⟨j, q, (List.getElem?_eq_some_iff.mp h).1, h, h'⟩
abbrev N32 : List Str := ["words", "many", "word"]
theorem sc32 : FnScope N32 ["words"] (defScope (top 32)) := ⟨rfl, rfl, rfl, by decide +kernel, rfl, by decide +kernel, by decide +kernel⟩
theorem ok_short (T : Txt K mg CL CM CC) (D : Df K mg "shorter_first" (top 32) ["words"]) : Cd P w K mg base 1 "shorter_first" spShort := by
  refine D.ok sc32 (fun vs H Q E h => ?_) (fun f cdv A outer s H vs Q E hr h => ?_)
  · obtain ⟨a, ws, rfl, _⟩ := h
    rfl
  · obtain ⟨a, ws, rfl, ha, nd, hl, hlw, k⟩ := h
    refine ⟨_, pss_one (ps_ret (pe_lc (own := [("many", 1), ("word", 2)]) (g := gTup K 2 (gCons (gName 1) (gCons (gName 2) gNil))) (tt := tYes) rfl sc32.nd (pi_list (pe_callB (cr_sortD hr.units) (by rfl) T.sorted (by decide +kernel) (pa_cons
          (pe_lc (own := [("word", 2)]) (g := gName 2) (tt := tYes) rfl sc32.nd (pi_list (pv 0)) (blkOk_by (N := N32) (sc := defScope (top 32)) (by decide +kernel))
            (fun _ _ _ _ _ => pg_name (i := 2) sc32.nd rfl (Or.inl rfl)) (fun _ _ _ _ _ => pts_nil) (fun _ _ _ _ _ => pe_tup (pa_cons (pe_lens T.len (pv 2)) (pa_cons (pv 2) pa_nil)))) pa_nil))) (blkOk_by (N := N32) (sc := defScope (top 32)) (by decide +kernel))
          (fun _ _ _ _ _ => pg_tupK (K := K) rfl rfl (pgs_cons (pg_name (i := 1) sc32.nd rfl (Or.inl rfl)) (pgs_cons (pg_name (i := 2) sc32.nd rfl (Or.inl rfl)) pgs_nil))) (fun _ _ _ _ _ => pts_nil) (fun _ _ _ _ _ => pv 2))), ?_⟩
    refine ⟨_, rfl, a, rfl, ⟨_, SqL.of ha⟩, fun L hL => lc_it (walk_list (K := K) (xs := ws.map VS)) (fun i H' => ∃ zs : List (Addr × Wd), Same H H' ∧ H' L = some (.lst (zs.map fun z => V.ref z.1)) ∧ (∀ z ∈ zs, H' z.1 = some (.tup [.int (z.2.length : Nat), VS z.2])) ∧ zs.map Prod.snd = ws.take i) ⟨[], put (Same.refl _) hL, upd_same, (fun z h => nomatch h), rfl⟩ (fun i H' _ ⟨_, s1, _⟩ => SqL.of (s1 _ _ ha)) ?_ ?_⟩
    · rintro i y H1 H2 hi ⟨zs, s1, e1, h1, t1⟩ ⟨rfl, hy⟩
      obtain ⟨z, hz, rfl⟩ := at_map hy
      have hzm := hlw z (List.mem_of_getElem? hz)
      have hzl : zs.length ≤ ws.length := by have := congrArg List.length t1; rw [List.length_map, List.length_take] at this; omega
      refine ⟨rfl, _, rfl, _, rfl, by rw [S_len]; exact line2 (by omega), _, rfl, by show 2 ≤ sizeLine; decide, fun p hp => ?_⟩
      refine ⟨_, upd_eq e1 hp, ?_, zs ++ [(p, z)], put (put s1 (s1.free hp)) hL, ?_, fun x hx => ?_, ?_⟩
      · rw [List.length_map]
        exact line1 (by omega)
      · rw [upd_same, List.map_append]
        rfl
      · rcases List.mem_append.mp hx with hx | hx
        · have g := h1 x hx
          rw [upd_ne (ne_of g e1 (by intro q; cases q)), upd_ne (ne_of_none g hp)]
          exact g
        · have e := List.mem_singleton.mp hx
          subst e
          show upd _ _ _ p = _
          rw [upd_ne (ne_of_none e1 hp).symm, upd_same, S_len]
      · rw [List.map_append, t1, List.take_add_one, hz]
        rfl
    rintro H1 ⟨zs, s1, e1, h1, t1⟩
    rw [List.length_map, List.take_length] at t1
    refine ⟨Addr × Wd, fun z => .ref z.1, fun z => .tuple [.int (z.2.length : Nat), .str (Ep.S z.2)], zs, L, rfl, SqL.of e1, fun z hz => .pair (SqT.of (h1 z hz)) (.int _) (.str _), AllAlike.of fun _ _ => by simp [alike, alikeAll], .inl fun q hq => ?_, fun _ _ => ?_, fun ys p hp hs np => ?_⟩
    · obtain ⟨z, _, rfl⟩ := List.mem_map.mp hq
      exact ⟨_, _, rfl⟩
    · simp [PyData.depth, PyData.depthAll]
    have s2 : Same H1 (upd H1 p (.lst (ys.map fun z => V.ref z.1))) := put (Same.refl _) np
    refine ⟨p, rfl, ⟨_, SqL.of upd_same⟩, fun R hR => lc_it (walk_list (K := K) (xs := ys.map fun z => V.ref z.1)) (fun i H' => Same (upd H1 p (.lst (ys.map fun z => V.ref z.1))) H' ∧ H' R = some (.lst (((ys.map Prod.snd).take i).map VS))) ⟨put (Same.refl _) hR, upd_same⟩ (fun i H' _ ⟨s3, _⟩ => SqL.of (s3 _ _ upd_same)) ?_ ?_⟩
    · rintro i y H3 H4 hi ⟨s3, e3⟩ ⟨rfl, hy⟩
      obtain ⟨z, hz, rfl⟩ := at_map hy
      have hzm := List.mem_of_getElem? hz
      refine ⟨_, _, rfl, SqT.of (s3 _ _ (s2 _ _ (h1 z (hp.mem_iff.mp hzm)))), rfl, _, _, rfl, _, _, rfl, rfl, rfl, ?_⟩
      refine ⟨_, rfl, _, e3, ?_, put s3 hR, ?_⟩
      · have e5 := congrArg List.length t1
        have e6 := hp.length_eq
        rw [List.length_map] at e5
        rw [List.length_map, List.length_take, List.length_map]
        exact line1 (by omega)
      · have hz2 : (ys.map Prod.snd)[i]? = some z.2 := by rw [List.getElem?_map, hz]; rfl
        rw [upd_same, List.take_add_one, hz2, List.map_append]
        rfl
    · rintro H3 ⟨s3, e3⟩
      rw [List.take_of_length_le (by rw [List.length_map, List.length_map]; exact Nat.le_refl _)] at e3
      have hperm : (ys.map Prod.snd).Perm ws := by rw [← t1]; exact hp.map Prod.snd
      refine k _ R (ys.map Prod.snd) ((s1.trans s2).trans s3) ((s1.trans s2).free hR) e3 hperm ?_
      have hnd : (ys.map Prod.snd).Nodup := hperm.nodup_iff.mpr nd
      have hle : (ys.map Prod.snd).Pairwise fun x y => x.length < y.length ∨ (x.length = y.length ∧ ¬ y < x) := by
        rw [List.pairwise_map]
        refine hs.imp fun {x y} h => ?_
        rcases le_is h with h | ⟨h, h'⟩
        · exact .inl (by omega)
        · exact .inr ⟨by omega, h'⟩
      refine (hle.and hnd).imp fun {x y} q => ?_
      rcases q.1 with q1 | ⟨q1, q2⟩
      · exact .inl q1
      · refine .inr ⟨q1, ?_⟩
        rcases wd_trich x y with t | t | t
        · exact t
        · exact absurd t q.2
        · exact absurd t q2
end
end Ep
end
section
set_option linter.all false
set_option maxRecDepth 100000
/-! EpW11: the walks of Classes: __init__, of_word, least_behinds. -/
namespace Ep
open PySem PySem.W PySem.Calls PyProof.Rows L2 EP EpR
theorem n_ln : ¬ (("longest" : Str) = "numbers") := by decide +kernel
theorem n_mn : ¬ (("maker" : Str) = "numbers") := by decide +kernel
theorem n_ml : ¬ (("maker" : Str) = "longest") := by decide +kernel
theorem n_tm : ¬ (("texts" : Str) = "maker") := by decide +kernel
theorem n_tl : ¬ (("texts" : Str) = "longest") := by decide +kernel
theorem n_tn : ¬ (("texts" : Str) = "numbers") := by decide +kernel
def cf (m l d : Addr) : List (Str × V) := putF "numbers" (.ref d) (putF "longest" (.ref l) (putF "maker" (.ref m) []))
theorem cf_m (m l d : Addr) : (cf m l d).lookup ("maker" : Str) = some (.ref m) := by unfold cf; rw [lookup_putF, if_neg n_mn, lookup_putF, if_neg n_ml, lk_one]
theorem cf_l (m l d : Addr) : (cf m l d).lookup ("longest" : Str) = some (.ref l) := by unfold cf; rw [lookup_putF, if_neg n_ln, lookup_putF, if_pos rfl]
theorem cf_n (m l d : Addr) : (cf m l d).lookup ("numbers" : Str) = some (.ref d) := by unfold cf; rw [lookup_putF, if_pos rfl]
theorem cf_no (m l d : Addr) {x : Str} (h1 : ¬ x = "numbers") (h2 : ¬ x = "longest") (h3 : ¬ x = "maker") : (cf m l d).lookup x = none := by
  unfold cf
  rw [lookup_putF, if_neg h1, lookup_putF, if_neg h2, lk_not h3]
/-- the classes of the texts ts, by their longest pieces -/
structure ClsAt (CL CM CC : Addr) (H : Hp) (c : Addr) (ts : List Wd) (L : List Wd) : Prop where
  long : IsLong ts L
  ex : ∃ dx m l d ord com, H c = some (.ins CC dx (cf m l d)) ∧ MakAt CL CM H m ts ord com ∧ H l = some (.lst (L.map VS)) ∧ H d = some (.dK (numsF kT L 0))
theorem ClsAt.same {CL CM CC : Addr} {H H' : Hp} {c : Addr} {ts : List Wd} {L : List Wd} (e : Same H H') (h : ClsAt CL CM CC H c ts L) : ClsAt CL CM CC H' c ts L :=
  let ⟨dx, m, l, d, ord, com, h1, h2, h3, h4⟩ := h.ex
  ⟨h.long, dx, m, l, d, ord, com, e _ _ h1, h2.same e, e _ _ h3, e _ _ h4⟩
theorem MakAt.off {CL CM CC : Addr} {H H' : Hp} {m c dx : Addr} {fs : List (Str × V)} {ts : List Wd} {ord : List Pl} {com : List Nat} (h : MakAt CL CM H m ts ord com) (hc : H c = some (.ins CC dx fs)) (nf : fs.lookup ("texts" : Str) = none) (nm : m ≠ c)
    (k : ∀ x o, H x = some o → x ≠ c → H' x = some o) : MakAt CL CM H' m ts ord com := by
  obtain ⟨dm, b, r, cc, h1, ⟨t, dl, h2, h3⟩, ⟨zs, hz, hzs⟩, h4⟩ := h.ex
  refine ⟨h.good, h.isOrd, h.isCom, dm, b, r, cc, k _ _ h1 nm, ⟨t, dl, k _ _ h2 (ne_of h2 hc ?_), k _ _ h3 (ne_of h3 hc (by intro q; cases q))⟩,
    ⟨zs, ⟨k _ _ hz.1 (ne_of hz.1 hc (by intro q; cases q)), fun z hz' => k _ _ (hz.2 z hz') (ne_of (hz.2 z hz') hc (by intro q; cases q))⟩, hzs⟩, k _ _ h4 (ne_of h4 hc (by intro q; cases q))⟩
  intro q
  injection q with _ _ q
  have e := congrArg (List.lookup ("texts" : Str)) q
  rw [lk_one, nf] at e
  cases e
def spClsInit (CL CM CC : Addr) : Sp := fun vs H Q _ => ∃ (c b dx : Addr) (ts : List Wd), vs = [.ref c, .ref b] ∧ H c = some (.ins CC dx []) ∧ LibAt CL H b ts ∧ Good ts ∧
  ∀ H', (∀ x o, H x = some o → x ≠ c → H' x = some o) → (∃ L, ClsAt CL CM CC H' c ts L) → Q .non H'
def IsOff (ts L : List Wd) (z : Wd) (H : Hp) (v : V) : Prop := (v = .non ∧ occ ts z = []) ∨ ∃ T g k, v = .ref T ∧ H T = some (.tup [.int (rk L g), .int (k : Nat)]) ∧ Grown ts z g k ∧ g ∈ L
def spOfWord (CL CM CC : Addr) : Sp := fun vs H Q _ => ∃ (c : Addr) (ts L : List Wd) (z : Wd), vs = [.ref c, VS z] ∧ ClsAt CL CM CC H c ts L ∧ z ≠ [] ∧ z.length ≤ 2000 ∧ ∀ H' v, Same H H' → IsOff ts L z H' v → Q v H'
def spLeastB (CL CM CC : Addr) : Sp := fun vs H Q _ => ∃ (c : Addr) (ts L : List Wd) (n : Nat) (g : Wd), vs = [.ref c, .int (n : Nat)] ∧ ClsAt CL CM CC H c ts L ∧ L[n]? = some g ∧ g.length ≤ 2000 ∧ ∀ H' l F, Same H H' → H' l = some (NL F) → IsBeh ts g (cnt ts g) F → Q (.ref l) H'
section
variable {P : Program} {w : World} {K : PySem.W.Frag} {mg : Str → Option Value} {base : Heap} {CL CM CC : Addr}
abbrev sCi : Stmt := inClass (top 33) 0
abbrev sCo : Stmt := inClass (top 33) 1
abbrev sCl : Stmt := inClass (top 33) 2
abbrev NCi : List Str := ["self", "library", "word"]
theorem scCi : FnScope NCi ["self", "library"] (defScope sCi) := ⟨rfl, rfl, rfl, by decide +kernel, rfl, by decide +kernel, by decide +kernel⟩
theorem ok_cinit (T : Txt K mg CL CM CC) (D : Di K mg CC "Classes" "Classes.__init__" sCi ["self", "library"]) (GM : Ci P w K mg base 4 CM "Maker" (spMakInit CL CM)) (GS : Cd P w K mg base 1 "shorter_first" spShort) (GC : Cm P w K mg base 2 CM "candidates" (spCands CL CM))
    (GA : Cm P w K mg base 1 CM "sign_ahead" (spAhead CL CM)) (GP : Cm P w K mg base 4 CM "places" (spPlaces CL CM)) : Ci P w K mg base 6 CC "Classes" (spClsInit CL CM CC) := by
  refine D.ok scCi (fun vs H Q E h => ?_) (fun f cdv A outer s H vs Q E hr h => ?_)
  · obtain ⟨c, b, dx, ts, rfl, _⟩ := h
    rfl
  · obtain ⟨c, b, dx, ts, rfl, hc, hL, hg, k⟩ := h
    have hu := hu_of hr
    refine ⟨_, pss_cons (ps_fld (pv 0) (pe_ci GM hr (by decide) (by rfl) (pa_cons (pv 1) pa_nil)) rfl)
      (pss_cons (ps_fld (pv 0) (pe_lst pa_nil) rfl)
      (pss_cons (ps_fld (pv 0) pe_dnewK rfl)
      (pss_one (ps_for PassesOwn.never rfl (pi_list (pe_cd GS hr (by decide) (by rfl) (pa_cons (pe_cm0 GC T.cM hr (by decide) (pe_fld (pv 0) rfl)) pa_nil))) (pg_name (i := 2) scCi.nd rfl (Or.inl rfl))
        (pss_one (ps_if (pt_cmpR op_isN (pe_cm GA T.cM hr (by decide) (pe_fld (pv 0) rfl) (pa_cons (pe_cm GP T.cM hr (by decide) (pe_fld (pv 0) rfl) (pa_cons (pv 2) pa_nil)) pa_nil)) pe_non (nomark _))
          (pss_cons (ps_dput hu (pe_fld (pv 0) rfl) (pv 2) (pe_len T.len (pe_fld (pv 0) rfl)) rfl)
          (pss_one (ps_expr (pe_bm PySem.F.plainAttrs_list PySem.F.slot_list_append PySem.F.type_list_append mt_append (pe_fld (pv 0) rfl) (pa_cons (pv 2) pa_nil))))) pss_nil)))))), ?_⟩
    -- self.maker
    refine ⟨_, rfl, fun m dm nm nd ned => ?_⟩
    have s0 : Same H (upd (upd H dm (.own m)) m (.ins CM dm [])) := put (put (Same.refl H) nd) nm
    refine ⟨m, b, dm, ts, rfl, upd_same, hL.same s0, hg, fun H1 k1 ⟨ord, com, hM⟩ => ⟨rfl, ?_⟩⟩
    have s1 : Same H H1 := fun x o e => k1 x o (s0 x o e) (ne_of_none e nm)
    have hc1 : H1 c = some (.ins CC dx []) := s1 _ _ hc
    have nmc : m ≠ c := (ne_of_none hc nm).symm
    refine ⟨_, rfl, c, CC, dx, [], rfl, hc1, T.cC, T.nM, (by show 0 < 1000; decide), ?_⟩
    -- self.longest
    refine ⟨by decide, fun l hl => ?_⟩
    have ncl : c ≠ l := ne_of_none (upd_same (H := H1)) hl
    have hl1 : H1 l = none := by rw [upd_ne ncl.symm] at hl; exact hl
    refine ⟨_, rfl, c, CC, dx, _, rfl, (by rw [upd_ne ncl]; exact upd_same), T.cC, T.nL, Nat.lt_of_le_of_lt (putF_len _ _ _) (by decide), ?_⟩
    -- self.numbers
    intro d hd
    have ncd : c ≠ d := ne_of_none (upd_same (H := upd (upd H1 c (.ins CC dx (putF "maker" (.ref m) []))) l (.lst []))) hd
    have hd2 : upd (upd H1 c (.ins CC dx (putF "maker" (.ref m) []))) l (.lst []) d = none := by rw [upd_ne ncd.symm] at hd; exact hd
    have nld : l ≠ d := ne_of_none (upd_same (H := upd H1 c (.ins CC dx (putF "maker" (.ref m) [])))) hd2
    have hd1 : H1 d = none := by rw [upd_ne nld.symm, upd_ne ncd.symm] at hd2; exact hd2
    refine ⟨_, rfl, c, CC, dx, _, rfl, (by rw [upd_ne ncd]; exact upd_same), T.cC, T.nN, Nat.lt_of_le_of_lt (Nat.le_trans (putF_len _ _ _) (Nat.succ_le_succ (putF_len _ _ _))) (by decide), ?_⟩
    generalize hH5 : upd (upd (upd (upd (upd H1 c (.ins CC dx (putF "maker" (.ref m) []))) l (.lst [])) c (.ins CC dx (putF "longest" (.ref l) (putF "maker" (.ref m) [])))) d (.dK [])) c (.ins CC dx (putF "numbers" (.ref d) (putF "longest" (.ref l) (putF "maker" (.ref m) [])))) = H5
    have c5 : H5 c = some (.ins CC dx (cf m l d)) := by rw [← hH5]; exact upd_same
    have l5 : H5 l = some (.lst []) := by rw [← hH5, upd_ne ncl.symm, upd_ne nld, upd_ne ncl.symm, upd_same]
    have d5 : H5 d = some (.dK []) := by rw [← hH5, upd_ne ncd.symm, upd_same]
    have k5 : ∀ x o, H1 x = some o → x ≠ c → H5 x = some o := fun x o e hx => by
      rw [← hH5, upd_ne hx, upd_ne (ne_of_none e hd1), upd_ne hx, upd_ne (ne_of_none e hl1), upd_ne hx]
      exact e
    have M5 : MakAt CL CM H5 m ts ord com := hM.off hc1 rfl nmc k5
    obtain ⟨dm5, b5, r5, cc5, m5, _⟩ := id M5.ex
    have noM : ∀ x : Str, ¬ x = "commons" → ¬ x = "ranked" → ¬ x = "source" → (mf b5 r5 cc5).lookup x = none := fun x h1 h2 h3 => mf_no _ _ _ h1 h2 h3
    refine ⟨_, rfl, c, CC, dx, _, _, rfl, c5, T.cC, T.nM, cf_m _ _ _, m, dm5, _, rfl, m5, noM _ (by decide +kernel) (by decide +kernel) (by decide +kernel), m, ts, ord, com, rfl, M5, fun H6 q6 Cs s6 e6 ic6 nd6 len6 => ?_⟩
    have hcand := cand_iff M5.isOrd M5.isCom ic6
    have hsz : ∀ z ∈ Cs, z.length ≤ 2000 := fun z hz => by
      obtain ⟨_, h2, _⟩ := (hcand z).mp hz
      obtain ⟨p, hp⟩ := occ_ne h2
      exact Nat.le_trans (mem_occ.mp hp).2.length_le (suf_le hg _)
    refine ⟨q6, Cs, rfl, e6, nd6, len6, hsz, fun H7 p ys s7 np e7 perm7 srt7 => ?_⟩
    have s57 := s6.trans s7
    have npl : p ≠ l := (ne_of_none (s6 _ _ l5) np).symm
    have npd : p ≠ d := (ne_of_none (s6 _ _ d5) np).symm
    have hnd : ys.Nodup := perm7.nodup_iff.mpr nd6
    refine ⟨p, rfl, ⟨_, SqL.of e7⟩, for_list (K := K) (a := p) (xs := ys.map VS) (fun i σ H' => ∃ v L, σ = [some (.ref c), some (.ref b), v] ∧ (∀ x o, H7 x = some o → x ≠ l → x ≠ d → H' x = some o) ∧ H' l = some (.lst (L.map VS)) ∧ H' d = some (.dK (numsF kT L 0)) ∧ L.Sublist (ys.take i) ∧ ∀ v, v ∈ L ↔ v ∈ ys.take i ∧ LeftEnd ts v)
      ⟨none, [], rfl, fun x o e _ _ => e, s57 _ _ l5, s57 _ _ d5, List.nil_sublist _, fun v => ⟨(fun h => nomatch h), fun h => by simp at h⟩⟩ (fun i σ H' _ ⟨_, _, _, q, _⟩ => SqL.of (q _ _ e7 npl npd)) ?_ ?_⟩
    · rintro i y σ H8 hy ⟨v, L, rfl, k8, l8, d8, sub8, mem8⟩
      obtain ⟨z, hz, rfl⟩ := at_map hy
      have hzC : z ∈ Cs := perm7.mem_iff.mp (List.mem_of_getElem? hz)
      obtain ⟨zne, zocc, zR⟩ := (hcand z).mp hzC
      have c8 : H8 c = some (.ins CC dx (cf m l d)) := k8 _ _ (s57 _ _ c5) ncl ncd
      have K8 : ∀ x o, H1 x = some o → x ≠ c → H8 x = some o := fun x o e hx => k8 _ _ (s57 _ _ (k5 x o e hx)) (ne_of_none e hl1) (ne_of_none e hd1)
      have M8 : MakAt CL CM H8 m ts ord com := hM.off hc1 rfl nmc K8
      obtain ⟨dm8, b8, r8, cc8, m8, _⟩ := id M8.ex
      have no8 : ∀ x : Str, ¬ x = "commons" → ¬ x = "ranked" → ¬ x = "source" → (mf b8 r8 cc8).lookup x = none := fun x h1 h2 h3 => mf_no _ _ _ h1 h2 h3
      refine ⟨_, rfl, c, CC, dx, _, _, rfl, c8, T.cC, T.nM, cf_m _ _ _, m, dm8, _, rfl, m8, no8 _ (by decide +kernel) (by decide +kernel) (by decide +kernel), ?_⟩
      refine ⟨_, rfl, c, CC, dx, _, _, rfl, c8, T.cC, T.nM, cf_m _ _ _, m, dm8, _, rfl, m8, no8 _ (by decide +kernel) (by decide +kernel) (by decide +kernel), _, rfl, m, ts, ord, com, z, rfl, M8, hsz z hzC, fun H9 q9 ps s9 P9 perm9 => ?_⟩
      have hpm : ∀ x, x ∈ ps ↔ x ∈ occ ts z := fun x => perm9.mem_iff
      have hpne : ps ≠ [] := fun e => zocc (by rw [e] at perm9; exact List.perm_nil.mp perm9.symm)
      refine ⟨m, q9, ts, ord, com, ps, rfl, M8.same s9, P9, fun x hx => (mem_occ.mp ((hpm x).mp hx)).1, hpne, ?_, fun H10 s10 => ?_⟩
      · rw [perm9.length_eq]
        exact Nat.le_trans (List.length_filter_le _ _) hg.all
      have s8 := s9.trans s10
      have hleft : sgV (saf (ps.map (ah ts))) = .non ↔ LeftEnd ts z := by
        constructor
        · intro e c' h
          have e2 : saf (ps.map (ah ts)) = some c' := saf_ah.mpr ⟨hpne, fun x hx => h x ((hpm x).mp hx)⟩
          rw [e2] at e
          cases e
        · intro h
          cases e : saf (ps.map (ah ts)) with
          | none => rfl
          | some c' => exact absurd (fun x hx => (saf_ah.mp e).2 x ((hpm x).mpr hx)) (h c')
      have tk : ys.take (i + 1) = ys.take i ++ [z] := by rw [List.take_add_one, hz]; rfl
      refine ⟨rfl, _, rfl, ?_⟩
      refine ite2 (fun q => ?_) (fun q => ?_)
      · have q : LeftEnd ts z := hleft.mp (of_decide_eq_true q)
        have hnew : z ∉ L := fun h => not_taken hnd hz ((mem8 z).mp h).1
        have hLl : L.length ≤ 4000 := by
          have h1 := sub8.length_le
          rw [List.length_take] at h1
          have h2 := perm7.length_eq
          omega
        have c10 := s8 _ _ c8
        refine ⟨_, rfl, c, CC, dx, _, _, rfl, c10, T.cC, T.nL, cf_l _ _ _, _, _, rfl, .inl ⟨_, SqL.of (s8 _ _ l8), rfl⟩, _, rfl, c, CC, dx, _, _, rfl, c10, T.cC, T.nN, cf_n _ _ _, _, rfl, d, _, rfl, DPut.k (k := kT z) (s8 _ _ d8) (by rw [numsF_len]; exact line1 (by omega)), ?_⟩
        have e11 : putK (numsF kT L 0) (kT z) (V.int ((L.map VS).length : Nat)) = numsF kT (L ++ [z]) 0 := by
          rw [numsF_snoc, putK_new _ (by rw [nums_val kT_inj, if_neg hnew]), List.length_map]
        rw [e11]
        have l11 : upd H10 d (.dK (numsF kT (L ++ [z]) 0)) l = some (.lst (L.map VS)) := by rw [upd_ne nld]; exact s8 _ _ l8
        refine ⟨_, rfl, c, CC, dx, _, _, rfl, (by rw [upd_ne ncd]; exact c10), T.cC, T.nL, cf_l _ _ _, .inl ⟨rfl, _, SqL.of l11⟩, _, rfl, l, _, _, rfl, rfl, l11, by rw [List.length_map]; exact line1 (by omega), ?_⟩
        refine ⟨_, L ++ [z], rfl, fun x o e h1 h2 => ?_, ?_, ?_, ?_, fun v => ?_⟩
        · rw [upd_ne h1, upd_ne h2]
          exact s8 _ _ (k8 x o e h1 h2)
        · rw [upd_same, List.map_append]
          rfl
        · rw [upd_ne nld.symm, upd_same]
        · rw [tk]
          exact sub8.append (List.Sublist.refl _)
        · rw [List.mem_append, mem8 v, tk, List.mem_append, List.mem_singleton]
          constructor
          · rintro (⟨h1, h2⟩ | rfl)
            · exact ⟨.inl h1, h2⟩
            · exact ⟨.inr rfl, q⟩
          · rintro ⟨h1 | rfl, h2⟩
            · exact .inl ⟨h1, h2⟩
            · exact .inr rfl
      · have q : ¬ LeftEnd ts z := fun t => q (decide_eq_true (hleft.mpr t))
        refine ⟨_, L, rfl, fun x o e h1 h2 => s8 _ _ (k8 x o e h1 h2), s8 _ _ l8, s8 _ _ d8, ?_, fun v => ?_⟩
        · rw [tk]
          exact sub8.trans (List.sublist_append_left _ _)
        · rw [mem8 v, tk, List.mem_append, List.mem_singleton]
          constructor
          · rintro ⟨h1, h2⟩
            exact ⟨.inl h1, h2⟩
          · rintro ⟨h1 | rfl, h2⟩
            · exact ⟨h1, h2⟩
            · exact absurd h2 q
    · rintro σ H8 ⟨v, L, rfl, k8, l8, d8, sub8, mem8⟩
      rw [List.length_map, List.take_length] at sub8 mem8
      have c8 : H8 c = some (.ins CC dx (cf m l d)) := k8 _ _ (s57 _ _ c5) ncl ncd
      have K8 : ∀ x o, H1 x = some o → x ≠ c → H8 x = some o := fun x o e hx => k8 _ _ (s57 _ _ (k5 x o e hx)) (ne_of_none e hl1) (ne_of_none e hd1)
      refine k H8 (fun x o e hx => K8 _ _ (s1 x o e) hx) ⟨L, ⟨⟨srt7.sublist sub8, fun z => ?_⟩, dx, m, l, d, ord, com, c8, hM.off hc1 rfl nmc K8, l8, d8⟩⟩
      rw [mem8 z, perm7.mem_iff, hcand z]
      exact ⟨fun ⟨⟨h1, h2, h3⟩, h4⟩ => ⟨h1, h2, h4, h3⟩, fun h => ⟨⟨h.ne, h.piece, h.right⟩, h.left⟩⟩
theorem scCo : FnScope ["self", "word", "found"] ["self", "word"] (defScope sCo) := ⟨rfl, rfl, rfl, by decide +kernel, rfl, by decide +kernel, by decide +kernel⟩
theorem ok_ofword (T : Txt K mg CL CM CC) (D : Dm K CC "of_word" "Classes.of_word" sCo ["self", "word"]) (GG : Cm P w K mg base 4 CM "grown" (spMGrown CL CM)) : Cm P w K mg base 5 CC "of_word" (spOfWord CL CM CC) := by
  refine D.ok scCo (fun vs H Q E h => ?_) (fun f cdv A outer s H vs Q E hr h => ?_)
  · obtain ⟨c, ts, L, z, rfl, _⟩ := h
    rfl
  · obtain ⟨c, ts, L, z, rfl, hC, hne, hzz, k⟩ := h
    have hu := hu_of hr
    obtain ⟨dx, m, l, d, ord, com, hc, hM, hl, hd⟩ := hC.ex
    obtain ⟨dm, b, r, cc, hm, _⟩ := id hM.ex
    refine ⟨_, pss_cons (ps_set (i := 2) scCo.nd rfl (Or.inl rfl) (pe_cm GG T.cM hr (by decide) (pe_fld (pv 0) rfl) (pa_cons (pv 1) pa_nil)))
      (pss_one (ps_ret (pe_ifExp (pt_cmpR op_isN (pv 2) pe_non (nomark _)) pe_non (pe_tup (pa_cons (pe_dget hu (pe_fld (pv 0) rfl) (pe_ix ix_tup (pv 2) pe_int (fun _ _ => rfl)) (fun _ _ => rfl)) (pa_cons (pe_ix ix_tup (pv 2) pe_int (fun _ _ => rfl)) pa_nil)))))), ?_⟩
    refine ⟨_, rfl, c, CC, dx, _, _, rfl, hc, T.cC, T.nM, cf_m _ _ _, m, dm, _, rfl, hm, mf_no _ _ _ (by decide +kernel) (by decide +kernel) (by decide +kernel), _, rfl, m, ts, ord, com, z, rfl, hM, hzz, fun H1 v s1 g1 => ?_⟩
    rcases g1 with ⟨rfl, h0⟩ | ⟨t, g, kk, rfl, ht, G⟩
    · refine ⟨_, rfl, rfl, _, rfl, iteT ?_⟩
      exact k _ _ s1 (.inl ⟨rfl, h0⟩)
    · refine ⟨_, rfl, rfl, _, rfl, iteF ?_⟩
      have hgL : g ∈ L := (hC.long.mem g).mpr (G.longest hne)
      have gt := DGet.k (k := kT g) (s1 _ _ hd)
      rw [nums_val kT_inj, if_pos hgL] at gt
      refine ⟨_, rfl, c, CC, dx, _, _, rfl, s1 _ _ hc, T.cC, T.nN, cf_n _ _ _, _, rfl, t, _, _, _, rfl, rfl, SqT.of ht, atI_nat (j := 0) rfl, d, _, rfl, gt, _, rfl, t, _, _, _, rfl, rfl, SqT.of ht, atI_nat (j := 1) rfl, by show 2 ≤ sizeLine; decide, fun p hp => ?_⟩
      exact k _ _ (put s1 (s1.free hp)) (.inr ⟨p, g, kk, rfl, upd_same, G, hgL⟩)
end
end Ep
end
section
set_option linter.all false
set_option maxRecDepth 100000
/-! EpW12: the walk of Classes.least_behinds. -/
namespace Ep
open PySem PySem.W PySem.Calls PyProof.Rows L2 EP EpR
theorem cut_all (g : Wd) (a : Nat) : cut g a g.length = g.drop a := by unfold cut; rw [List.take_length]
/-- what is known of the first behinds -/
structure BehI (ts : List Wd) (g : Wd) (F : List Nat) (bb : Nat) : Prop where
  all : ∀ a, a < F.length → Few ts g (cnt ts g) a g.length
  lo : ∀ (a b : Nat), F[a]? = some b → a < b ∧ b ≤ g.length ∧ Few ts g (cnt ts g) a b
  least : ∀ (a b c : Nat), F[a]? = some b → a < c → c < b → ¬ Few ts g (cnt ts g) a c
  last : (F = [] ∧ bb = 1) ∨ F[F.length - 1]? = some bb
theorem BehI.few {ts : List Wd} {g : Wd} {F : List Nat} {bb : Nat} (I : BehI ts g F bb) (hF : F.length < g.length) {c : Nat} (h1 : F.length < c) (h2 : c < max bb (F.length + 1)) : ¬ Few ts g (cnt ts g) F.length c := by
  rcases I.last with ⟨e1, e2⟩ | e
  · rw [e1, e2] at h2
    rw [e1] at h1
    simp at h1 h2
    omega
  · intro h
    have h3 := I.lo _ _ e
    have hne : F.length ≠ 0 := fun z => by
      have := (List.getElem?_eq_some_iff.mp e).1
      omega
    exact I.least _ _ c e (by omega) (by omega) (few_mono (a := F.length) (b := c) (a' := F.length - 1) (b' := c) (by omega) (Nat.le_refl _) h1 (by omega) h)
section
variable {P : Program} {w : World} {K : PySem.W.Frag} {mg : Str → Option Value} {base : Heap} {CL CM CC : Addr}
abbrev NCl : List Str := ["self", "number", "longest", "many", "found", "behind", "begin"]
theorem scCl : FnScope NCl ["self", "number"] (defScope sCl) := ⟨rfl, rfl, rfl, by decide +kernel, rfl, by decide +kernel, by decide +kernel⟩
theorem ok_leastb (T : Txt K mg CL CM CC) (D : Dm K CC "least_behinds" "Classes.least_behinds" sCl ["self", "number"]) (GM : Cm P w K mg base 4 CM "many" (spMany CL CM)) : Cm P w K mg base 5 CC "least_behinds" (spLeastB CL CM CC) := by
  refine D.ok scCl (fun vs H Q E h => ?_) (fun f cdv A outer s H vs Q E hr h => ?_)
  · obtain ⟨c, ts, L, n, g, rfl, _⟩ := h
    rfl
  · obtain ⟨c, ts, L, n, g, rfl, hC, hg, hgl, k⟩ := h
    obtain ⟨dx, m, l, d, ord, com, hc, hM, hl, hd⟩ := hC.ex
    obtain ⟨dm, b, r, cc, hm, _⟩ := id hM.ex
    have noM : ∀ x : Str, ¬ x = "commons" → ¬ x = "ranked" → ¬ x = "source" → (mf b r cc).lookup x = none := fun x h1 h2 h3 => mf_no _ _ _ h1 h2 h3
    have noMany : (mf b r cc).lookup ("many" : Str) = none := noM _ (by decide +kernel) (by decide +kernel) (by decide +kernel)
    have hgS : (Ep.S g).length ≤ sizeLine := by rw [S_len]; exact line2 (by omega)
    have mono : ∀ (i : Int), Few ts g (cnt ts g) 0 0 ∨ True := fun _ => .inr trivial
    refine ⟨_, pss_cons (ps_set (i := 2) scCl.nd rfl (Or.inl rfl) (pe_ix ix_list (pe_fld (pv 0) rfl) (pv 1) (fun _ _ => rfl)))
      (pss_cons (ps_set (i := 3) scCl.nd rfl (Or.inl rfl) (pe_cm GM T.cM hr (by decide) (pe_fld (pv 0) rfl) (pa_cons (pv 2) pa_nil)))
      (pss_cons (ps_set (i := 4) scCl.nd rfl (Or.inl rfl) (pe_lst pa_nil))
      (pss_cons (ps_set (i := 5) scCl.nd rfl (Or.inl rfl) pe_int)
      (pss_cons (ps_for PassesOwn.never rfl (pi_range1 (by rfl) T.range (pa_cons (pe_lens T.len (pv 2)) pa_nil)) (pg_name (i := 6) scCl.nd rfl (Or.inl rfl))
        (pss_cons (ps_if (pt_cmpR op_gt (pe_cm GM T.cM hr (by decide) (pe_fld (pv 0) rfl) (pa_cons (pe_slice sl_str (pv 2) (po_some (pv 6)) po_none) pa_nil)) (pv 3) (nomark _)) (pss_one (ps_ret (pv 4))) pss_nil)
        (pss_cons (ps_set (i := 5) scCl.nd rfl (Or.inl rfl) (pe_callB (call_max2 rfl) (by rfl) T.max (by decide +kernel) (pa_cons (pv 5) (pa_cons (pe_op op_add (pv 6) pe_int) pa_nil))))
        (pss_cons (ps_while PassesOwn.never (pt_cmpR op_gt (pe_cm GM T.cM hr (by decide) (pe_fld (pv 0) rfl) (pa_cons (pe_slice sl_str (pv 2) (po_some (pv 6)) (po_some (pv 5))) pa_nil)) (pv 3) (nomark _))
          (pss_one (ps_aug (i := 5) scCl.nd rfl (Or.inl rfl) pe_int ip_add)))
        (pss_one (ps_expr (pe_bm PySem.F.plainAttrs_list PySem.F.slot_list_append PySem.F.type_list_append mt_append (pv 4) (pa_cons (pv 5) pa_nil))))))))
      (pss_one (ps_ret (pv 4))))))), ?_⟩
    refine ⟨_, rfl, c, CC, dx, _, _, rfl, hc, T.cC, T.nL, cf_l _ _ _, _, rfl, l, _, _, _, rfl, rfl, SqL.of hl, atI_nat (j := n) (by rw [List.getElem?_map, hg]; rfl), ?_⟩
    refine ⟨_, rfl, c, CC, dx, _, _, rfl, hc, T.cC, T.nM, cf_m _ _ _, m, dm, _, rfl, hm, noMany, _, rfl, m, ts, ord, com, g, rfl, hM, hgl, fun H1 s1 => ?_⟩
    refine ⟨by decide, fun F0 hF => ?_⟩
    have hF0 : H F0 = none := s1.free hF
    have s2 : Same H (upd H1 F0 (.lst [])) := put s1 hF0
    refine ⟨_, rfl, _, rfl, hgS, _, rfl, ?_, ?_, ?_⟩
    · rw [S_len]; omega
    · rw [S_len]; omega
    rw [S_len, Int.toNat_natCast]
    refine for_range (lo := 0) (n := g.length) (fun i σ H' => ∃ (v : Option V) (F : List Nat) (bb : Nat), σ = [some (.ref c), some (.int (n : Nat)), some (VS g), some (.int (cnt ts g : Nat)), some (.ref F0), some (.int (bb : Nat)), v] ∧ Same H H' ∧ H' F0 = some (NL F) ∧ F.length = i ∧ BehI ts g F bb)
      ⟨none, [], 1, rfl, s2, upd_same, rfl, ⟨(fun a h => absurd h (Nat.not_lt_zero _)), (fun a b h => by simp at h), (fun a b c h => by simp at h), .inl ⟨rfl, rfl⟩⟩⟩ ?_ ?_
    · rintro i σ H3 hi ⟨v, F, bb, rfl, s3, e3, rfl, I⟩
      rw [Int.zero_add]
      refine ⟨_, rfl, c, CC, dx, _, _, rfl, s3 _ _ hc, T.cC, T.nM, cf_m _ _ _, m, dm, _, rfl, s3 _ _ hm, noMany, ?_⟩
      refine ⟨_, rfl, _, rfl, _, rfl, _, rfl, hgS, ?_⟩
      rw [cut_from]
      refine ⟨m, ts, ord, com, g.drop F.length, rfl, hM.same s3, by rw [List.length_drop]; omega, fun H4 s4 => ?_⟩
      have s34 := s3.trans s4
      refine ⟨_, rfl, _, _, rfl, rfl, _, rfl, ?_⟩
      refine ite2 (fun q => ?_) (fun q => ?_)
      · have q : (cnt ts g : Int) < (cnt ts (g.drop F.length) : Nat) := of_decide_eq_true q
        refine ⟨_, rfl, k _ _ F s34 (s4 _ _ e3) ⟨by omega, I.all, fun _ h => ?_, I.lo, I.least⟩⟩
        unfold Few at h
        rw [cut_all] at h
        omega
      · have q : ¬ (cnt ts g : Int) < (cnt ts (g.drop F.length) : Nat) := fun t => q (decide_eq_true t)
        have hfew : Few ts g (cnt ts g) F.length g.length := by
          unfold Few
          rw [cut_all]
          omega
        refine ⟨_, rfl, _, rfl, _, _, rfl, rfl, _, _, rfl, ?_⟩
        have em : (if ((F.length : Nat) : Int) + 1 > ((bb : Nat) : Int) then ((F.length : Nat) : Int) + 1 else ((bb : Nat) : Int)) = ((max bb (F.length + 1) : Nat) : Int) := by
          by_cases h : ((F.length : Nat) : Int) + 1 > ((bb : Nat) : Int)
          · rw [if_pos h]; omega
          · rw [if_neg h]; omega
        rw [em]
        have hbl : max bb (F.length + 1) ≤ g.length := by
          have : bb ≤ g.length := by
            rcases I.last with ⟨_, e2⟩ | e
            · omega
            · exact (I.lo _ _ e).2.1
          omega
        refine while_by (fun σ H' => ∃ (e : Nat), σ = [some (.ref c), some (.int (n : Nat)), some (VS g), some (.int (cnt ts g : Nat)), some (.ref F0), some (.int (e : Nat)), some (.int (F.length : Nat))] ∧ Same H H' ∧ H' F0 = some (NL F) ∧ F.length < e ∧ e ≤ g.length ∧ ∀ c, F.length < c → c < e → ¬ Few ts g (cnt ts g) F.length c)
          (fun σ _ => muC g.length 5 σ) ⟨max bb (F.length + 1), rfl, s34, s4 _ _ e3, by omega, hbl, fun c h1 h2 => I.few hi h1 h2⟩ ?_ ?_
        · rintro σ H5 ⟨e, rfl, s5, e5, he1, he2, hno⟩
          refine ⟨_, rfl, c, CC, dx, _, _, rfl, s5 _ _ hc, T.cC, T.nM, cf_m _ _ _, m, dm, _, rfl, s5 _ _ hm, noMany, ?_⟩
          refine ⟨_, rfl, _, rfl, _, rfl, _, rfl, _, rfl, _, rfl, hgS, ?_⟩
          rw [cut_both]
          refine ⟨m, ts, ord, com, cut g F.length e, rfl, hM.same s5, by rw [cut_len]; omega, fun H6 s6 => ?_⟩
          have s56 := s5.trans s6
          refine ⟨_, rfl, _, _, rfl, rfl, _, rfl, ?_⟩
          refine ite2 (fun q => ?_) (fun q => ?_)
          · have q : (cnt ts g : Int) < (cnt ts (cut g F.length e) : Nat) := of_decide_eq_true q
            have hnf : ¬ Few ts g (cnt ts g) F.length e := fun h => by unfold Few at h; omega
            have hlt : e < g.length := by
              refine Nat.lt_of_le_of_ne he2 fun z => hnf ?_
              rw [z]
              exact hfew
            refine ⟨_, rfl, _, _, rfl, rfl, ⟨e + 1, rfl, s56, s6 _ _ e5, by omega, by omega, fun c h1 h2 => ?_⟩, ?_⟩
            · rcases Nat.lt_or_eq_of_le (Nat.le_of_lt_succ h2) with t | t
              · exact hno c h1 t
              · rw [t]; exact hnf
            · show (((g.length : Nat) : Int) - ((e : Int) + 1)).toNat < (((g.length : Nat) : Int) - (e : Int)).toNat
              omega
          · have q : ¬ (cnt ts g : Int) < (cnt ts (cut g F.length e) : Nat) := fun t => q (decide_eq_true t)
            have hf : Few ts g (cnt ts g) F.length e := by unfold Few; omega
            refine ⟨_, rfl, .inl ⟨rfl, _, SqL.of (s6 _ _ e5)⟩, _, rfl, F0, _, _, rfl, rfl, s6 _ _ e5, by rw [List.length_map]; exact line1 (by omega), ?_⟩
            have hat : ∀ a b, (F ++ [e])[a]? = some b → F[a]? = some b ∨ (a = F.length ∧ b = e) := fun a b h => by
              rcases Nat.lt_trichotomy a F.length with t | t | t
              · rw [List.getElem?_append_left t] at h
                exact .inl h
              · subst t
                rw [List.getElem?_concat_length] at h
                exact .inr ⟨rfl, (Option.some.inj h).symm⟩
              · rw [List.getElem?_eq_none (by rw [List.length_append, List.length_singleton]; omega)] at h
                cases h
            refine ⟨_, F ++ [e], e, rfl, put s56 hF0, ?_, by rw [List.length_append, List.length_singleton], ⟨fun a ha => ?_, fun a b hab => ?_, fun a b c hab => ?_, .inr ?_⟩⟩
            · rw [upd_same]
              unfold NL
              rw [List.map_append]
              rfl
            · rw [List.length_append, List.length_singleton] at ha
              rcases Nat.lt_or_eq_of_le (Nat.le_of_lt_succ ha) with t | t
              · exact I.all a t
              · rw [t]; exact hfew
            · rcases hat a b hab with h | ⟨rfl, rfl⟩
              · exact I.lo a b h
              · exact ⟨he1, he2, hf⟩
            · rcases hat a b hab with h | ⟨rfl, rfl⟩
              · exact I.least a b c h
              · exact hno c
            · rw [List.length_append, List.length_singleton, Nat.add_sub_cancel, List.getElem?_concat_length]
        · intro σ H Q Q' hq h
          obtain ⟨v, h1, a, C, dx, fs, v2, g1, g2, g3, g4, g5, a2, dx2, fs2, f1, f2, f3, t, h2, lo, h3, i, e1, hi, h4, j, e2, z, e3, e4, m, ts, ord, com, z2, e5, e6, e7, q⟩ := h
          refine ⟨v, h1, a, C, dx, fs, v2, g1, g2, g3, g4, g5, a2, dx2, fs2, f1, f2, f3, t, h2, lo, h3, i, e1, hi, h4, j, e2, z, e3, e4, m, ts, ord, com, z2, e5, e6, e7, fun H' s' => ?_⟩
          obtain ⟨u, h5, i2, j2, e8, e9, k, e10, q⟩ := q H' s'
          exact ⟨u, h5, i2, j2, e8, e9, k, e10, hq _ _ q⟩
    · rintro σ H3 ⟨v, F, bb, rfl, s3, e3, hl3, I⟩
      refine ⟨_, rfl, k _ _ F s3 e3 ⟨by omega, I.all, fun h => by omega, I.lo, I.least⟩⟩
end
end Ep
end
section
set_option linter.all false
set_option maxRecDepth 100000
/-! EpW13: the walks of class_of, grown, checked, least_pieces, is_longest. -/
namespace Ep
open PySem PySem.W PySem.Calls PyProof.Rows L2 EP EpR
def stepT (F : List Nat) (a : Nat) : Option (Nat × Nat) := match F[a]? with
  | some b => match F[a + 1]? with
    | some c => if b < c then some (a, b) else none
    | none => some (a, b)
  | none => none
theorem told_eq (F : List Nat) : told F = (List.range F.length).filterMap (stepT F) := rfl
def toldI (F : List Nat) (i : Nat) : List (Nat × Nat) := (List.range i).filterMap (stepT F)
theorem toldI_succ (F : List Nat) (i : Nat) : toldI F (i + 1) = toldI F i ++ (stepT F i).toList := by
  unfold toldI
  rw [List.range_succ, List.filterMap_append]
  cases h : stepT F i with
  | none => simp [List.filterMap_cons, h]
  | some x => simp [List.filterMap_cons, h]
theorem toldI_len (F : List Nat) (i : Nat) : (toldI F i).length ≤ i := by
  unfold toldI
  have := List.length_filterMap_le (stepT F) (List.range i)
  rw [List.length_range] at this
  exact this
theorem long_len {ts : List Wd} (G : Good ts) {g : Wd} (h : Longest ts g) : g.length ≤ 2000 := by
  obtain ⟨p, hp⟩ := occ_ne h.piece
  exact Nat.le_trans (mem_occ.mp hp).2.length_le (suf_le G _)
def spClassOf (CL : Addr) : Sp := fun vs H Q _ => ∃ (b : Addr) (ts : List Wd) (z : Wd), vs = [.ref b, VS z] ∧ LibAt CL H b ts ∧ Good ts ∧ Sgn z ∧ z ≠ [] ∧ z.length ≤ 2000 ∧ ∀ H' v L, Same H H' → IsLong ts L → IsOff ts L z H' v → Q v H'
def IsTop (ts : List Wd) (z : Wd) (v : V) : Prop := (v = .non ∧ occ ts z = []) ∨ ∃ g k, v = VS g ∧ Grown ts z g k
def spGrown (CL : Addr) : Sp := fun vs H Q _ => ∃ (b : Addr) (ts : List Wd) (z : Wd), vs = [.ref b, VS z] ∧ LibAt CL H b ts ∧ Good ts ∧ Sgn z ∧ z ≠ [] ∧ z.length ≤ 2000 ∧ ∀ H' v, Same H H' → IsTop ts z v → Q v H'
def spIsLongest (CL : Addr) : Sp := fun vs H Q _ => ∃ (b : Addr) (ts : List Wd) (z : Wd), vs = [.ref b, VS z] ∧ LibAt CL H b ts ∧ Good ts ∧ Sgn z ∧ z ≠ [] ∧ z.length ≤ 2000 ∧ ∀ H' r, Same H H' → (∀ g k, Grown ts z g k → r = decide (g = z)) → Q (.bl r) H'
def spChecked (CL CM CC : Addr) : Sp := fun vs H Q _ => ∃ (b : Addr) (ts : List Wd) (n : Nat), vs = [.ref b, .int (n : Nat)] ∧ LibAt CL H b ts ∧ Good ts ∧ (∀ L, IsLong ts L → n < L.length) ∧ ∀ H' c L, Same H H' → ClsAt CL CM CC H' c ts L → Q (.ref c) H'
def spLeastP (CL : Addr) : Sp := fun vs H Q _ => ∃ (b : Addr) (ts L : List Wd) (n : Nat) (g : Wd), vs = [.ref b, .int (n : Nat)] ∧ LibAt CL H b ts ∧ Good ts ∧ IsLong ts L ∧ L[n]? = some g ∧ ∀ H' l F, Same H H' → IsBeh ts g (cnt ts g) F → PL H' l (told F) → Q (.ref l) H'
section
variable {P : Program} {w : World} {K : PySem.W.Frag} {mg : Str → Option Value} {base : Heap} {CL CM CC : Addr}
theorem sc34 : FnScope ["library", "word"] ["library", "word"] (defScope (top 34)) := ⟨rfl, rfl, rfl, by decide +kernel, rfl, by decide +kernel, by decide +kernel⟩
theorem ok_classof (T : Txt K mg CL CM CC) (D : Df K mg "class_of" (top 34) ["library", "word"]) (GK : Cd P w K mg base 3 "check_word" spCheck) (GC : Ci P w K mg base 6 CC "Classes" (spClsInit CL CM CC)) (GW : Cm P w K mg base 5 CC "of_word" (spOfWord CL CM CC)) : Cd P w K mg base 8 "class_of" (spClassOf CL) := by
  refine D.ok sc34 (fun vs H Q E h => ?_) (fun f cdv A outer s H vs Q E hr h => ?_)
  · obtain ⟨b, ts, z, rfl, _⟩ := h
    rfl
  · obtain ⟨b, ts, z, rfl, hL, hg, hs, hne, hz, k⟩ := h
    refine ⟨_, pss_cons (ps_expr (pe_cd GK hr (by decide) (by rfl) (pa_cons (pv 1) pa_nil)))
      (pss_one (ps_ret (pe_cm GW T.cC hr (by decide) (pe_ci GC hr (by decide) (by rfl) (pa_cons (pv 0) pa_nil)) (pa_cons (pv 1) pa_nil)))), ?_⟩
    refine ⟨_, rfl, z, rfl, hs, by omega, hne, fun H1 s1 => ?_⟩
    refine ⟨_, rfl, fun x dx nx ndx nxd => ?_⟩
    have s2 : Same H1 (upd (upd H1 dx (.own x)) x (.ins CC dx [])) := put (put (Same.refl H1) ndx) nx
    refine ⟨x, b, dx, ts, rfl, upd_same, hL.same (s1.trans s2), hg, fun H2 k2 ⟨L, C⟩ => ⟨rfl, ?_⟩⟩
    have s3 : Same H H2 := fun y o e => k2 y o (s2 _ _ (s1 _ _ e)) (ne_of_none (s1 _ _ e) nx)
    obtain ⟨dc, m, l, d, ord, com, hc, _⟩ := id C.ex
    exact ⟨x, dc, _, rfl, hc, cf_no _ _ _ (by decide +kernel) (by decide +kernel) (by decide +kernel), _, rfl, x, ts, L, z, rfl, C, hne, hz, fun H3 v s4 o => k _ _ L (s3.trans s4) C.long o⟩
theorem sc35 : FnScope ["library", "word", "found"] ["library", "word"] (defScope (top 35)) := ⟨rfl, rfl, rfl, by decide +kernel, rfl, by decide +kernel, by decide +kernel⟩
theorem ok_grown (T : Txt K mg CL CM CC) (D : Df K mg "grown" (top 35) ["library", "word"]) (GK : Cd P w K mg base 3 "check_word" spCheck) (GM : Ci P w K mg base 4 CM "Maker" (spMakInit CL CM)) (GG : Cm P w K mg base 4 CM "grown" (spMGrown CL CM)) : Cd P w K mg base 6 "grown" (spGrown CL) := by
  refine D.ok sc35 (fun vs H Q E h => ?_) (fun f cdv A outer s H vs Q E hr h => ?_)
  · obtain ⟨b, ts, z, rfl, _⟩ := h
    rfl
  · obtain ⟨b, ts, z, rfl, hL, hg, hs, hne, hz, k⟩ := h
    refine ⟨_, pss_cons (ps_expr (pe_cd GK hr (by decide) (by rfl) (pa_cons (pv 1) pa_nil)))
      (pss_cons (ps_set (i := 2) sc35.nd rfl (Or.inl rfl) (pe_cm GG T.cM hr (by decide) (pe_ci GM hr (by decide) (by rfl) (pa_cons (pv 0) pa_nil)) (pa_cons (pv 1) pa_nil)))
      (pss_one (ps_ret (pe_ifExp (pt_cmpR op_isN (pv 2) pe_non (nomark _)) pe_non (pe_ix ix_tup (pv 2) pe_int (fun _ _ => rfl)))))), ?_⟩
    refine ⟨_, rfl, z, rfl, hs, by omega, hne, fun H1 s1 => ?_⟩
    refine ⟨_, rfl, fun x dx nx ndx nxd => ?_⟩
    have s2 : Same H1 (upd (upd H1 dx (.own x)) x (.ins CM dx [])) := put (put (Same.refl H1) ndx) nx
    refine ⟨x, b, dx, ts, rfl, upd_same, hL.same (s1.trans s2), hg, fun H2 k2 ⟨ord, com, M⟩ => ⟨rfl, ?_⟩⟩
    have s3 : Same H H2 := fun y o e => k2 y o (s2 _ _ (s1 _ _ e)) (ne_of_none (s1 _ _ e) nx)
    obtain ⟨dm, b', r, c, hm, _⟩ := id M.ex
    refine ⟨x, dm, _, rfl, hm, mf_no _ _ _ (by decide +kernel) (by decide +kernel) (by decide +kernel), _, rfl, x, ts, ord, com, z, rfl, M, hz, fun H3 v s4 o => ?_⟩
    rcases o with ⟨rfl, h0⟩ | ⟨t, g, kk, rfl, ht, G⟩
    · refine ⟨_, rfl, rfl, _, rfl, iteT ?_⟩
      exact k _ _ (s3.trans s4) (.inl ⟨rfl, h0⟩)
    · refine ⟨_, rfl, rfl, _, rfl, iteF ?_⟩
      exact ⟨_, rfl, t, _, _, _, rfl, rfl, SqT.of ht, atI_nat (j := 0) rfl, k _ _ (s3.trans s4) (.inr ⟨g, kk, rfl, G⟩)⟩
theorem sc38 : FnScope ["library", "thing", "found"] ["library", "thing"] (defScope (top 38)) := ⟨rfl, rfl, rfl, by decide +kernel, rfl, by decide +kernel, by decide +kernel⟩
theorem ok_islongest (T : Txt K mg CL CM CC) (D : Df K mg "is_longest" (top 38) ["library", "thing"]) (GK : Cd P w K mg base 2 "is_word" spWord) (GM : Ci P w K mg base 4 CM "Maker" (spMakInit CL CM)) (GG : Cm P w K mg base 4 CM "grown" (spMGrown CL CM)) : Cd P w K mg base 6 "is_longest" (spIsLongest CL) := by
  refine D.ok sc38 (fun vs H Q E h => ?_) (fun f cdv A outer s H vs Q E hr h => ?_)
  · obtain ⟨b, ts, z, rfl, _⟩ := h
    rfl
  · obtain ⟨b, ts, z, rfl, hL, hg, hs, hne, hz, k⟩ := h
    refine ⟨_, pss_cons (ps_if (pt_not (pt_val (pe_cd GK hr (by decide) (by rfl) (pa_cons (pv 1) pa_nil)))) (pss_one ps_never) pss_nil)
      (pss_cons (ps_set (i := 2) sc38.nd rfl (Or.inl rfl) (pe_cm GG T.cM hr (by decide) (pe_ci GM hr (by decide) (by rfl) (pa_cons (pv 0) pa_nil)) (pa_cons (pv 1) pa_nil)))
      (pss_one (ps_ret (pe_and (pe_cmpR op_notN (pv 2) pe_non (nomark _)) (pe_one (pe_cmpR op_eq (pe_ix ix_tup (pv 2) pe_int (fun _ _ => rfl)) (pv 1) (nomark _))))))), ?_⟩
    refine ⟨_, rfl, z, rfl, hs, by omega, hne, fun H1 s1 => ⟨_, rfl, iteF ?_⟩⟩
    refine ⟨_, rfl, fun x dx nx ndx nxd => ?_⟩
    have s2 : Same H1 (upd (upd H1 dx (.own x)) x (.ins CM dx [])) := put (put (Same.refl H1) ndx) nx
    refine ⟨x, b, dx, ts, rfl, upd_same, hL.same (s1.trans s2), hg, fun H2 k2 ⟨ord, com, M⟩ => ⟨rfl, ?_⟩⟩
    have s3 : Same H H2 := fun y o e => k2 y o (s2 _ _ (s1 _ _ e)) (ne_of_none (s1 _ _ e) nx)
    obtain ⟨dm, b', r, c, hm, _⟩ := id M.ex
    refine ⟨x, dm, _, rfl, hm, mf_no _ _ _ (by decide +kernel) (by decide +kernel) (by decide +kernel), _, rfl, x, ts, ord, com, z, rfl, M, hz, fun H3 v s4 o => ?_⟩
    rcases o with ⟨rfl, h0⟩ | ⟨t, g, kk, rfl, ht, G⟩
    · refine ⟨_, rfl, rfl, _, rfl, iteF ?_⟩
      exact k _ false (s3.trans s4) fun g kk G => absurd h0 G.piece
    · refine ⟨_, rfl, rfl, _, rfl, iteT ?_⟩
      refine ⟨_, rfl, t, _, _, _, rfl, rfl, SqT.of ht, atI_nat (j := 0) rfl, _, rfl, rfl, ?_⟩
      show Q (.bl (decide (VS g = VS z))) H3
      rw [VS_dec]
      exact k _ _ (s3.trans s4) fun g' kk' G' => by rw [(G.one hne G').1]
theorem sc36 : FnScope ["library", "number", "found"] ["library", "number"] (defScope (top 36)) := ⟨rfl, rfl, rfl, by decide +kernel, rfl, by decide +kernel, by decide +kernel⟩
theorem ok_checked (T : Txt K mg CL CM CC) (D : Df K mg "checked" (top 36) ["library", "number"]) (GB : Cd P w K mg base 3 "is_below" spBelow) (GC : Ci P w K mg base 6 CC "Classes" (spClsInit CL CM CC)) : Cd P w K mg base 8 "checked" (spChecked CL CM CC) := by
  refine D.ok sc36 (fun vs H Q E h => ?_) (fun f cdv A outer s H vs Q E hr h => ?_)
  · obtain ⟨b, ts, n, rfl, _⟩ := h
    rfl
  · obtain ⟨b, ts, n, rfl, hL, hg, hn, k⟩ := h
    refine ⟨_, pss_cons (ps_set (i := 2) sc36.nd rfl (Or.inl rfl) (pe_ci GC hr (by decide) (by rfl) (pa_cons (pv 0) pa_nil)))
      (pss_cons (ps_if (pt_not (pt_val (pe_cd GB hr (by decide) (by rfl) (pa_cons (pv 1) (pa_cons (pe_len T.len (pe_fld (pv 2) rfl)) pa_nil))))) (pss_one ps_never) pss_nil)
      (pss_one (ps_ret (pv 2)))), ?_⟩
    refine ⟨_, rfl, fun x dx nx ndx nxd => ?_⟩
    have s2 : Same H (upd (upd H dx (.own x)) x (.ins CC dx [])) := put (put (Same.refl H) ndx) nx
    refine ⟨x, b, dx, ts, rfl, upd_same, hL.same s2, hg, fun H2 k2 ⟨L, C⟩ => ⟨rfl, ?_⟩⟩
    have s3 : Same H H2 := fun y o e => k2 y o (s2 _ _ e) (ne_of_none e nx)
    obtain ⟨dc, m, l, d, ord, com, hc, hM, hl, hd⟩ := id C.ex
    refine ⟨_, rfl, _, rfl, x, CC, dc, _, _, rfl, hc, T.cC, T.nL, cf_l _ _ _, _, _, rfl, .inl ⟨_, SqL.of hl, rfl⟩, (n : Nat), _, rfl, Int.natCast_nonneg _, ?_, _, rfl, iteF ?_⟩
    · rw [List.length_map]
      have := hn L C.long
      omega
    · exact ⟨_, rfl, k _ _ L s3 C⟩
abbrev N37 : List Str := ["library", "number", "behinds", "found", "begin", "behind"]
theorem sc37 : FnScope N37 ["library", "number"] (defScope (top 37)) := ⟨rfl, rfl, rfl, by decide +kernel, rfl, by decide +kernel, by decide +kernel⟩
theorem ok_leastp (T : Txt K mg CL CM CC) (D : Df K mg "least_pieces" (top 37) ["library", "number"]) (GC : Cd P w K mg base 8 "checked" (spChecked CL CM CC)) (GB : Cm P w K mg base 5 CC "least_behinds" (spLeastB CL CM CC)) : Cd P w K mg base 9 "least_pieces" (spLeastP CL) := by
  refine D.ok sc37 (fun vs H Q E h => ?_) (fun f cdv A outer s H vs Q E hr h => ?_)
  · obtain ⟨b, ts, L, n, g, rfl, _⟩ := h
    rfl
  · obtain ⟨b, ts, L, n, g, rfl, hL, hg, hlong, hng, k⟩ := h
    have hgl := long_len hg ((hlong.mem g).mp (List.mem_of_getElem? hng))
    refine ⟨_, pss_cons (ps_set (i := 2) sc37.nd rfl (Or.inl rfl) (pe_cm GB T.cC hr (by decide) (pe_cd GC hr (by decide) (by rfl) (pa_cons (pv 0) (pa_cons (pv 1) pa_nil))) (pa_cons (pv 1) pa_nil)))
      (pss_cons (ps_set (i := 3) sc37.nd rfl (Or.inl rfl) (pe_lst pa_nil))
      (pss_cons (ps_for PassesOwn.never rfl (pi_enum (by rfl) T.enumerate (pa_cons (pv 2) pa_nil)) (pg_tup rfl (pgs_cons (pg_name (i := 4) sc37.nd rfl (Or.inl rfl)) (pgs_cons (pg_name (i := 5) sc37.nd rfl (Or.inl rfl)) pgs_nil)))
        (pss_one (ps_if (PW.pt (pw_or (pt_cmpR op_eq (pe_op op_add (pv 4) pe_int) (pe_len T.len (pv 2)) (nomark _)) (pw_or1 (pt_cmpR op_gt (pe_ix ix_list (pv 2) (pe_op op_add (pv 4) pe_int) (fun _ _ => rfl)) (pv 5) (nomark _)))))
          (pss_one (ps_expr (pe_bm PySem.F.plainAttrs_list PySem.F.slot_list_append PySem.F.type_list_append mt_append (pv 3) (pa_cons (pe_tup (pa_cons (pv 4) (pa_cons (pv 5) pa_nil))) pa_nil)))) pss_nil)))
      (pss_one (ps_ret (pv 3))))), ?_⟩
    refine ⟨_, rfl, _, rfl, b, ts, n, rfl, hL, hg, fun L' h => ?_, fun H1 c L' s1 C => ?_⟩
    · rw [h.one hlong]
      exact (List.getElem?_eq_some_iff.mp hng).1
    obtain rfl : L' = L := C.long.one hlong
    obtain ⟨dc, m, l, d, ord, com, hc, _⟩ := id C.ex
    refine ⟨c, dc, _, rfl, hc, cf_no _ _ _ (by decide +kernel) (by decide +kernel) (by decide +kernel), _, rfl, c, ts, L', n, g, rfl, C, hng, hgl, fun H2 lb F s2 e2 B => ?_⟩
    have hFl : F.length ≤ 2000 := by have := B.len; omega
    refine ⟨by decide, fun F0 hF => ?_⟩
    have s12 := s1.trans s2
    have hF0 : H F0 = none := s12.free hF
    have s3 : Same H2 (upd H2 F0 (.lst [])) := put (Same.refl _) hF
    refine ⟨_, rfl, lb, _, rfl, SqL.of (s3 _ _ e2), for_it (walk_enum (K := K) (a := lb) (xs := F.map fun c : Nat => V.int (c : Nat))) (fun i σ H' => ∃ v1 v2 zs, σ = [some (.ref b), some (.int (n : Nat)), some (.ref lb), some (.ref F0), v1, v2] ∧ Same H2 H' ∧ ZL H' F0 zs ∧ zs.map Prod.snd = toldI F i)
      ⟨none, none, [], rfl, s3, ZL.nil, rfl⟩ (fun i σ H' _ ⟨_, _, _, _, q, _⟩ => SqL.of (q _ _ e2)) ?_ ?_⟩
    · rintro i y σ H3 H4 hi ⟨v1, v2, zs, rfl, s4, z4, t4⟩ ⟨a, y1, y2, rfl, n1, rfl, e3, e4⟩
      obtain ⟨bh, hb, rfl⟩ := at_map e4
      obtain rfl := Option.some.inj e3
      have hi' : i < F.length := (List.getElem?_eq_some_iff.mp hb).1
      have s5 : Same H3 (upd H3 a (.tup [.int (i : Nat), .int (bh : Nat)])) := put (Same.refl _) n1
      have s45 := s4.trans s5
      have hzl : zs.length ≤ i := by
        have h1 := congrArg List.length t4
        rw [List.length_map] at h1
        have := toldI_len F i
        omega
      refine ⟨_, _, rfl, SqT.of upd_same, rfl, _, _, rfl, _, _, rfl, rfl, ?_⟩
      refine ⟨_, rfl, _, _, rfl, rfl, _, rfl, _, _, rfl, .inl ⟨_, SqL.of (s45 _ _ e2), rfl⟩, rfl, _, rfl, ?_⟩
      rw [dec_int, List.length_map]
      refine ite2 (fun q => ?_) (fun q => ?_)
      · have q : i + 1 = F.length := by have := eq_of_beq q; omega
        have hst : stepT F i = some (i, bh) := by
          unfold stepT
          rw [hb, List.getElem?_eq_none (by omega)]
        refine iteT ?_
        have z5 := z4.same s5
        refine ⟨_, rfl, .inl ⟨rfl, _, SqL.of z5.1⟩, _, rfl, _, rfl, by show 2 ≤ sizeLine; decide, fun p hp => ?_⟩
        refine ⟨F0, _, _, rfl, rfl, upd_eq z5.1 hp, by rw [List.length_map]; exact line1 (by omega), ?_⟩
        refine ⟨_, _, zs ++ [(p, (i, bh))], rfl, put (put s45 (s45.free hp)) hF, ZL.snoc rfl z5 hp, ?_⟩
        rw [List.map_append, t4, toldI_succ, hst]
        rfl
      · have q : i + 1 ≠ F.length := fun e => q (by rw [beq_iff_eq]; omega)
        have hc1 : F[i + 1]? = some (F[i + 1]'(by omega)) := List.getElem?_eq_getElem (by omega)
        generalize F[i + 1]'(by omega) = c1 at hc1
        refine ⟨_, rfl, _, rfl, _, _, rfl, rfl, lb, _, _, .int (c1 : Nat), rfl, rfl, SqL.of (s45 _ _ e2), ?_, _, rfl, _, _, rfl, rfl, _, rfl, ?_⟩
        · rw [show ((i : Nat) : Int) + 1 = ((i + 1 : Nat) : Int) by omega]
          exact atI_nat (by rw [List.getElem?_map, hc1]; rfl)
        refine ite2 (fun q2 => ?_) (fun q2 => ?_)
        · have q2 : (bh : Int) < (c1 : Nat) := of_decide_eq_true q2
          have hst : stepT F i = some (i, bh) := by
            unfold stepT
            rw [hb, hc1]
            exact if_pos (by omega)
          have z5 := z4.same s5
          refine ⟨_, rfl, .inl ⟨rfl, _, SqL.of z5.1⟩, _, rfl, _, rfl, by show 2 ≤ sizeLine; decide, fun p hp => ?_⟩
          refine ⟨F0, _, _, rfl, rfl, upd_eq z5.1 hp, by rw [List.length_map]; exact line1 (by omega), ?_⟩
          refine ⟨_, _, zs ++ [(p, (i, bh))], rfl, put (put s45 (s45.free hp)) hF, ZL.snoc rfl z5 hp, ?_⟩
          rw [List.map_append, t4, toldI_succ, hst]
          rfl
        · have q2 : ¬ (bh : Int) < (c1 : Nat) := fun t => q2 (decide_eq_true t)
          have hst : stepT F i = none := by
            unfold stepT
            rw [hb, hc1]
            exact if_neg (by omega)
          refine ⟨_, _, zs, rfl, s45, z4.same s5, ?_⟩
          rw [t4, toldI_succ, hst]
          simp
    · rintro σ H3 ⟨v1, v2, zs, rfl, s4, z4, t4⟩
      rw [List.length_map] at t4
      exact ⟨_, rfl, k _ _ F (s12.trans s4) B ⟨zs, z4, t4⟩⟩
end
end Ep
end
section
set_option linter.all false
set_option maxRecDepth 100000
/-! EpL1: the law's places, hand, draw, flag. -/
namespace Ep
open PySem PySem.W PySem.Calls PyProof.Rows L2 EP EpR
/-! ### the hand -/
def HO5 (cl : Addr) (i b s c : Int) : HO := .lst [.ref cl, .int i, .int b, .int s, .int c]
def Hd (o : HO) : Prop := ∃ cl i b s c, o = HO5 cl i b s c
/-- all but the hand stays -/
def SH (H H' : Hp) : Prop := ∀ x o, H x = some o → ¬ Hd o → H' x = some o
theorem Same.sh {H H' : Hp} (s : Same H H') : SH H H' := fun x o e _ => s x o e
theorem SH.refl (H : Hp) : SH H H := fun _ _ e _ => e
theorem SH.trans {H H1 H2 : Hp} (a : SH H H1) (b : SH H1 H2) : SH H H2 := fun x o e n => b x o (a x o e n) n
/-- a hand at h -/
structure HandAt (H : Hp) (h cl : Addr) : Prop where
  ex : ∃ (cells : List Int) (i : Nat) (b s c : Int), H h = some (HO5 cl i b s c) ∧ H cl = some (.lst (cells.map V.int)) ∧ (∀ x ∈ cells, 0 ≤ x) ∧ 0 ≤ b ∧ 0 ≤ s ∧ 0 ≤ c
theorem HandAt.same {H H' : Hp} {h cl : Addr} (s : Same H H') (x : HandAt H h cl) : HandAt H' h cl := let ⟨cells, i, b, t, c, h1, h2, r⟩ := x.ex; ⟨cells, i, b, t, c, s _ _ h1, s _ _ h2, r⟩
theorem hd_tup (xs : List V) : ¬ Hd (.tup xs) := fun ⟨_, _, _, _, _, e⟩ => by cases e
theorem hd_ins (C dx : Addr) (fs : List (Str × V)) : ¬ Hd (.ins C dx fs) := fun ⟨_, _, _, _, _, e⟩ => by cases e
theorem hd_dK (kvs : List (Key × V)) : ¬ Hd (.dK kvs) := fun ⟨_, _, _, _, _, e⟩ => by cases e
theorem hd_refs {α : Type} (f : α → Addr) (zs : List α) : ¬ Hd (.lst (zs.map fun z => V.ref (f z))) := fun ⟨_, _, _, _, _, e⟩ => by
  injection e with e
  match zs, e with
  | _ :: _ :: _, e => simp at e
theorem hd_ints (zs : List Int) : ¬ Hd (.lst (zs.map V.int)) := fun ⟨_, _, _, _, _, e⟩ => by
  injection e with e
  match zs, e with
  | _ :: _, e => simp at e
theorem hd_strs (zs : List Wd) : ¬ Hd (.lst (zs.map VS)) := fun ⟨_, _, _, _, _, e⟩ => by
  injection e with e
  match zs, e with
  | _ :: _, e => simp at e
theorem LibAt.sh {CL : Addr} {H H' : Hp} {b : Addr} {ts : List Wd} (e : SH H H') (h : LibAt CL H b ts) : LibAt CL H' b ts := let ⟨t, dx, a, b⟩ := h; ⟨t, dx, e _ _ a (hd_ins _ _ _), e _ _ b (hd_tup _)⟩
/-! ### promises -/
def spPl : Sp := fun vs H Q _ => ∃ (t : Addr) (ts : List Wd) (z : Wd), vs = [.ref t, VS z] ∧ TxAt H t ts ∧ Good ts ∧ z ≠ [] ∧ z.length ≤ 2000 ∧ ∀ H' l, Same H H' → PL H' l (occ ts z) → Q (.ref l) H'
def spHand (K : PySem.W.Frag) : Sp := fun vs H Q _ => ∃ (a : Addr) (ns : List Int), vs = [.ref a] ∧ SqL K H a (ns.map V.int) ∧ ns.length ≤ 63 ∧ ∀ H' h cl, Same H H' → HandAt H' h cl → Q (.ref h) H'
def spDraw : Sp := fun vs H Q _ => ∃ (h cl : Addr) (m : Nat), vs = [.ref h, .int (m : Nat)] ∧ HandAt H h cl ∧ 0 < m ∧ m ≤ 100000 ∧ ∀ H' (d : Nat), SH H H' → HandAt H' h cl → d < m → Q (.int (d : Nat)) H'
def spFlag : Sp := fun vs H Q _ => ∃ a b : Bool, vs = [.bl a, .bl b] ∧ Q (.bl (decide (a = b))) H
theorem pre_slice {g z : Wd} {i : Nat} : (g.take (i + z.length)).drop i = z ↔ z <+: g.drop i := by
  rw [List.drop_take, show i + z.length - i = z.length by omega]
  exact ⟨fun e => by rw [← e]; exact List.take_prefix _ _, fun e => (List.prefix_iff_eq_take.mp e).symm⟩
section
variable {P : Program} {w : World} {K : PySem.W.Frag} {mg : Str → Option Value} {base : Heap} {CL CM CC : Addr}
abbrev N40 : List Str := ["_law_texts_here", "_law_word", "_law_found", "_law_number", "_law_text_here", "_law_at"]
theorem sc40 : FnScope N40 ["_law_texts_here", "_law_word"] (defScope (top 40)) := ⟨rfl, rfl, rfl, by decide +kernel, rfl, by decide +kernel, by decide +kernel⟩
theorem ok_pl (T : Txt K mg CL CM CC) (D : Df K mg "_law_places" (top 40) ["_law_texts_here", "_law_word"]) : Cd P w K mg base 1 "_law_places" spPl := by
  refine D.ok sc40 (fun vs H Q E h => ?_) (fun f cdv A outer s H vs Q E hr h => ?_)
  · obtain ⟨t, ts, z, rfl, _⟩ := h
    rfl
  · obtain ⟨t, ts, z, rfl, ht, hg, hne, hzz, k⟩ := h
    have hzS : (Ep.S z).length ≤ sizeLine := by rw [S_len]; exact line2 (by omega)
    refine ⟨_, pss_cons (ps_set (i := 2) sc40.nd rfl (Or.inl rfl) (pe_lst pa_nil))
      (pss_cons (ps_for PassesOwn.never rfl (pi_enumT (by rfl) T.enumerate (pa_cons (pv 0) pa_nil)) (pg_tup rfl (pgs_cons (pg_name (i := 3) sc40.nd rfl (Or.inr rfl)) (pgs_cons (pg_name (i := 4) sc40.nd rfl (Or.inr rfl)) pgs_nil)))
        (pss_one (ps_expr (pe_bm PySem.F.plainAttrs_list PySem.F.slot_list_extend PySem.F.type_list_extend mt_extend (pv 2) (pa_cons (pe_lc (own := [("_law_at", 5)]) (g := gName 5) rfl sc40.nd (pi_range1 (by rfl) T.range (pa_cons (pe_lens T.len (pv 4)) pa_nil)) (blkOk_by (N := N40) (sc := defScope (top 40)) (by decide +kernel))
          (fun _ _ _ _ _ => pg_name (i := 5) sc40.nd rfl (Or.inl rfl)) (fun _ _ _ _ _ => pts_one (pt_cmpR op_eq (pe_slice sl_str (pv 4) (po_some (pv 5)) (po_some (pe_op op_add (pv 5) (pe_lens T.len (pv 1))))) (pv 1) (nomark _))) (fun _ _ _ _ _ => pe_tup (pa_cons (pv 3) (pa_cons (pv 5) pa_nil)))) pa_nil)))))
      (pss_one (ps_ret (pv 2)))), ?_⟩
    refine ⟨Nat.zero_le _, fun F hF => ?_⟩
    have s0 : Same H (upd H F (.lst [])) := put (Same.refl H) hF
    refine ⟨_, rfl, t, _, rfl, SqT.of (s0 _ _ ht), for_it (walk_enumT (xs := ts.map VS)) (fun i σ H' => ∃ v1 v2 zs, σ = [some (.ref t), some (VS z), some (.ref F), v1, v2, none] ∧ Same H H' ∧ ZL H' F zs ∧ zs.map Prod.snd = (prefP ts i).filter fun p => decide (z <+: suf ts p)) ⟨none, none, [], rfl, s0, ZL.nil, rfl⟩ (fun i σ H' _ ⟨_, _, _, _, s1, _⟩ => SqT.of (s1 _ _ ht)) ?_ ?_⟩
    · rintro i x σ H1 H2 hi ⟨v1, v2, zs, rfl, s1, z1, e1⟩ ⟨a, y, u, rfl, n1, rfl, e2, e3⟩
      obtain ⟨t', h1, rfl⟩ := at_map e3
      obtain rfl := Option.some.inj e2
      have hm := List.mem_of_getElem? h1
      have hi' : i < ts.length := by rw [List.length_map] at hi; exact hi
      have et : tx ts i = t' := tx_of h1
      have htl := hg.text hm
      have htS : (Ep.S t').length ≤ sizeLine := by rw [S_len]; exact line2 (by omega)
      refine ⟨_, _, rfl, SqT.of upd_same, rfl, _, _, rfl, _, _, rfl, rfl, ?_⟩
      have s2 : Same H1 (upd H1 a (.tup [.int (i : Nat), VS t'])) := put (Same.refl H1) n1
      have hz : (zs.map fun z => V.ref z.1).length + t'.length ≤ 2000 := by
        have e4 : zs.length ≤ (prefP ts i).length := by
          have := congrArg List.length e1
          rw [List.length_map] at this
          rw [this]
          exact List.length_filter_le _ _
        have e5 := prefP_le ts (show i + 1 ≤ ts.length from hi')
        rw [prefP_succ, List.length_append, prefP_all] at e5
        have e6 : (rowP ts i).length = t'.length := by unfold rowP; rw [List.length_map, List.length_range, et]
        have := hg.all
        rw [List.length_map]
        omega
      refine ⟨_, rfl, .inl ⟨rfl, _, SqL.of (s2 _ _ z1.1)⟩, _, rfl, _, rfl, htS, _, rfl, ?_, ?_, fun L hL2 => lc_it walk_range (fun j H' => ∃ ys, Same H1 H' ∧ ZL H' L ys ∧ ys.map Prod.snd = ((List.range j).map (fun k => (i, k))).filter fun p => decide (z <+: suf ts p)) ⟨[], put s2 (s2.free hL2), ZL.nil, rfl⟩ (fun _ _ _ _ => trivial) ?_ ?_⟩
      · rw [S_len]; omega
      · rw [S_len]; omega
      · rintro j x H3 H4 hj ⟨ys, s3, z3, e4⟩ ⟨rfl, rfl⟩
        have hj' : j < t'.length := by rw [S_len] at hj; omega
        have hyl : ys.length ≤ j := by
          have := congrArg List.length e4
          rw [List.length_map] at this
          rw [this]
          refine Nat.le_trans (List.length_filter_le _ _) ?_
          rw [List.length_map, List.length_range]
          exact Nat.le_refl _
        have e6 : (List.range (j + 1)).map (fun k => (i, k)) = (List.range j).map (fun k => (i, k)) ++ [(i, j)] := by rw [List.range_succ, List.map_append]; rfl
        have e0 : (fun i : Nat => V.int (0 + (i : Nat))) j = V.int (j : Nat) := by show V.int (0 + (j : Nat)) = _; rw [Int.zero_add]
        rw [e0]
        refine ⟨rfl, _, rfl, _, rfl, _, rfl, _, rfl, _, rfl, _, rfl, hzS, _, _, rfl, rfl, _, rfl, _, rfl, htS, _, rfl, rfl, _, rfl, ?_⟩
        show if decide (V.str (cutS (Ep.S t') (some ((j : Nat) : Int)) (some (((j : Nat) : Int) + ((Ep.S z).length : Nat)))) = VS z) = true then _ else _
        rw [S_len, show ((j : Nat) : Int) + (z.length : Nat) = ((j + z.length : Nat) : Int) by omega, cut_both, VS_dec]
        have hiff : ((t'.take (j + z.length)).drop j = z) ↔ z <+: suf ts (i, j) := by
          rw [pre_slice]
          unfold suf
          rw [et]
        refine ite2 (fun q => ?_) (fun q => ?_)
        · have q := hiff.mp (of_decide_eq_true q)
          refine ⟨_, rfl, _, rfl, by show 2 ≤ sizeLine; decide, fun p hp => ?_⟩
          refine ⟨_, upd_eq z3.1 hp, ?_, ys ++ [(p, (i, j))], put (put s3 (s3.free hp)) ?_, ZL.snoc rfl z3 hp, ?_⟩
          · rw [List.length_map]
            exact line1 (by omega)
          · exact s2.free hL2
          · rw [List.map_append, e4, e6, List.filter_append]
            congr 1
            rw [List.filter_cons_of_pos (by exact decide_eq_true q)]
            rfl
        · have q : ¬ z <+: suf ts (i, j) := fun t => q (decide_eq_true (hiff.mpr t))
          refine ⟨ys, s3, z3, ?_⟩
          rw [e4, e6, List.filter_append, List.filter_cons_of_neg (by simpa using q)]
          simp
      · rintro H3 ⟨ys, s3, z3, e4⟩
        have z1' := z1.same s3
        refine ⟨F, L, _, _, rfl, rfl, z1'.1, z3.1, ?_, ?_⟩
        · have hyl : ys.length ≤ t'.length := by
            have := congrArg List.length e4
            rw [List.length_map, S_len] at this
            rw [this]
            refine Nat.le_trans (List.length_filter_le _ _) ?_
            rw [List.length_map, List.length_range]
            omega
          rw [List.length_map (as := ys)]
          exact line2 (by omega)
        · refine ⟨_, _, zs ++ ys, rfl, fun c o e => ?_, ZL.app z1' z3, ?_⟩
          · rw [upd_ne (ne_of_none e hF)]
            exact s3 _ _ (s1 _ _ e)
          · rw [List.map_append, e1, e4, prefP_succ, List.filter_append, S_len, Int.toNat_natCast]
            unfold rowP
            rw [et]
    · rintro σ H1 ⟨v1, v2, zs, rfl, s1, z1, e1⟩
      refine ⟨_, rfl, k _ _ s1 ⟨zs, z1, ?_⟩⟩
      rw [e1, List.length_map, prefP_all]
      rfl
abbrev N41 : List Str := ["_law_script", "_law_cells", "_law_cell"]
theorem sc41 : FnScope N41 ["_law_script"] (defScope (top 41)) := ⟨rfl, rfl, rfl, by decide +kernel, rfl, by decide +kernel, by decide +kernel⟩
theorem ok_hand (T : Txt K mg CL CM CC) (D : Df K mg "_law_hand" (top 41) ["_law_script"]) : Cd P w K mg base 1 "_law_hand" (spHand K) := by
  refine D.ok sc41 (fun vs H Q E h => ?_) (fun f cdv A outer s H vs Q E hr h => ?_)
  · obtain ⟨a, ns, rfl, _⟩ := h
    rfl
  · obtain ⟨a, ns, rfl, ha, hl, k⟩ := h
    refine ⟨_, pss_cons (ps_setLc (i := 1) (own := [("_law_cell", 2)]) (g := gName 2) (tt := tYes) rfl sc41.nd rfl rfl (sw_true rfl rfl rfl (by decide +kernel)) (pi_list (pe_slice sl_list (pv 0) po_none (po_some pe_int))) (blkOk_by (N := N41) (sc := defScope (top 41)) (by decide +kernel))
        (fun _ _ _ _ _ => pg_name (i := 2) sc41.nd rfl (Or.inl rfl)) (fun _ _ _ _ _ => pts_nil) (fun _ _ _ _ _ => pe_callB call_abs (by rfl) T.abs (by decide +kernel) (pa_cons (pe_callTy call_int1 (by rfl) T.int (by decide +kernel) (pa_cons (pv 2) pa_nil)) pa_nil)))
      (pss_one (ps_ret (pe_lst (pa_cons (pv 1) (pa_cons pe_int (pa_cons pe_int (pa_cons (pe_op op_add pe_int (pe_len T.len (pv 1))) (pa_cons pe_int pa_nil)))))))), ?_⟩
    refine ⟨_, rfl, _, rfl, a, _, rfl, ha, fun p hp => ?_⟩
    have s1 : Same H (upd H p (.lst (cutV (ns.map V.int) none (some (63 : Int))))) := put (Same.refl H) hp
    have ec : ∃ ms : List Int, cutV (ns.map V.int) none (some (63 : Int)) = ms.map V.int := by
      unfold cutV
      rw [← List.map_drop, ← List.map_take]
      exact ⟨_, rfl⟩
    obtain ⟨ms, ec⟩ := ec
    have hml : ms.length ≤ 63 := by
      have h1 := cutV_length (ns.map V.int) none (some (63 : Int))
      rw [ec, List.length_map, List.length_map] at h1
      omega
    rw [ec] at s1 ⊢
    refine ⟨p, rfl, ⟨_, SqL.of upd_same⟩, fun L hL => lc_it (walk_list (K := K) (xs := ms.map V.int)) (fun i H' => Same (upd H p (.lst (ms.map V.int))) H' ∧ H' L = some (.lst (((ms.take i).map fun x => if x < 0 then -x else x).map V.int))) ⟨put (Same.refl _) hL, upd_same⟩ (fun i H' _ ⟨s2, _⟩ => SqL.of (s2 _ _ upd_same)) ?_ ?_⟩
    · rintro i y H1 H2 hi ⟨s2, e2⟩ ⟨rfl, hy⟩
      obtain ⟨x, hx, rfl⟩ := at_map hy
      refine ⟨rfl, _, rfl, .inl ⟨_, rfl, _, rfl, _, e2, ?_, put s2 hL, ?_⟩⟩
      · rw [List.length_map, List.length_map, List.length_take]
        exact line1 (by omega)
      · rw [upd_same, List.take_add_one, hx, List.map_append, List.map_append]
        rfl
    · rintro H1 ⟨s2, e2⟩
      rw [List.length_map, List.take_length] at e2
      refine ⟨_, rfl, _, rfl, _, _, rfl, .inl ⟨_, SqL.of e2, rfl⟩, _, _, rfl, rfl, by show 5 ≤ sizeLine; decide, fun h hh => ?_⟩
      refine k _ h L ((s1.trans s2).trans (put (Same.refl _) hh)) ⟨ms.map (fun x => if x < 0 then -x else x), 0, 0, 1 + (ms.length : Int), 0, ?_, upd_eq e2 hh, fun x hx => ?_, by decide, by omega, by decide⟩
      · rw [upd_same, List.length_map, List.length_map]
        rfl
      · obtain ⟨y, _, rfl⟩ := List.mem_map.mp hx
        show 0 ≤ if y < 0 then -y else y
        split <;> omega
theorem sc43 : FnScope ["_law_told", "_law_due"] ["_law_told", "_law_due"] (defScope (top 43)) := ⟨rfl, rfl, rfl, by decide +kernel, rfl, by decide +kernel, by decide +kernel⟩
theorem ok_flag (T : Txt K mg CL CM CC) (D : Df K mg "_law_flag" (top 43) ["_law_told", "_law_due"]) : Cd P w K mg base 1 "_law_flag" spFlag := by
  refine D.ok sc43 (fun vs H Q E h => ?_) (fun f cdv A outer s H vs Q E hr h => ?_)
  · obtain ⟨a, b, rfl, _⟩ := h
    rfl
  · obtain ⟨a, b, rfl, k⟩ := h
    refine ⟨_, pss_one (ps_ret (pe_and (pe_callB call_isi (by rfl) T.isinstance (by decide +kernel) (pa_cons (pv 0) (pa_cons (pe_bltn (v := .ty "bool") (by rfl) T.bool (by decide +kernel) rfl) pa_nil)))
      (pe_one (pe_cmpR op_eq (pv 0) (pv 1) (nomark _))))), ?_⟩
    refine ⟨_, rfl, _, _, _, _, true, rfl, .ty "bool", .base (.bl a), kit_ty (by decide +kernel), _, rfl, iteT ?_⟩
    refine ⟨_, rfl, _, rfl, rfl, ?_⟩
    show Q (.bl (decide (V.bl a = V.bl b))) H
    have : decide (V.bl a = V.bl b) = decide (a = b) := by
      rw [decide_eq_decide]
      exact ⟨fun h => by injection h, fun h => by rw [h]⟩
    rw [this]
    exact k
end
end Ep
end
section
set_option linter.all false
set_option maxRecDepth 100000
/-! EpL2: the law's draw. -/
namespace Ep
open PySem PySem.W PySem.Calls PyProof.Rows L2 EP EpR
theorem fmod_nn {a : Int} {m : Int} (ha : 0 ≤ a) (hm : 0 < m) : 0 ≤ a.fmod m ∧ a.fmod m < m := by
  rw [Int.fmod_eq_emod_of_nonneg _ (Int.le_of_lt hm)]
  exact ⟨Int.emod_nonneg _ (by omega), Int.emod_lt_of_pos _ hm⟩
theorem fdiv_nn {a m : Int} (ha : 0 ≤ a) (hm : 0 < m) : 0 ≤ a.fdiv m := by
  rw [Int.fdiv_eq_ediv_of_nonneg _ (Int.le_of_lt hm)]
  exact Int.ediv_nonneg ha (Int.le_of_lt hm)
theorem HandAt.put {H H' : Hp} {h cl : Addr} {cells : List Int} {o : HO} {i' : Nat} {b' s' c' : Int} (e : H h = some o) (ho : Hd o) (k : ∀ x u, H x = some u → x ≠ h → H' x = some u) (e2 : H cl = some (.lst (cells.map V.int))) (hc : ∀ x ∈ cells, 0 ≤ x)
    (e3 : H' h = some (HO5 cl i' b' s' c')) (hb : 0 ≤ b') (hs : 0 ≤ s') (hcc : 0 ≤ c') : HandAt H' h cl := by
  have n : cl ≠ h := ne_of e2 e fun q => hd_ints cells (by rw [q]; exact ho)
  exact ⟨cells, i', b', s', c', e3, k _ _ e2 n, hc, hb, hs, hcc⟩
theorem sm {a m : Int} (h0 : 0 ≤ a) (h1 : a < m) (hm : m ≤ 2147483647 := by decide) : -(2 ^ 64) < a ∧ a < 2 ^ 64 := by omega
theorem mul_nn {a b c : Int} (ha : 0 ≤ a) (hb : 0 ≤ b) (hc : 0 ≤ c) : 0 ≤ a * (b + c) := Int.mul_nonneg ha (Int.add_nonneg hb hc)
section
variable {P : Program} {w : World} {K : PySem.W.Frag} {mg : Str → Option Value} {base : Heap} {CL CM CC : Addr}
abbrev N42 : List Str := ["_law_hand_here", "_law_many", "_law_cell", "_law_digit", "_law_number"]
theorem sc42 : FnScope N42 ["_law_hand_here", "_law_many"] (defScope (top 42)) := ⟨rfl, rfl, rfl, by decide +kernel, rfl, by decide +kernel, by decide +kernel⟩
theorem ok_draw (T : Txt K mg CL CM CC) (D : Df K mg "_law_draw" (top 42) ["_law_hand_here", "_law_many"]) : Cd P w K mg base 1 "_law_draw" spDraw := by
  refine D.ok sc42 (fun vs H Q E h => ?_) (fun f cdv A outer s H vs Q E hr h => ?_)
  · obtain ⟨h, cl, m, rfl, _⟩ := h
    rfl
  · obtain ⟨h, cl, m, rfl, ⟨cells, i, b, t, c, eh, ec, hcells, hb, ht, hc⟩, hm0, hm1, k⟩ := h
    have hmm : ((m : Nat) : Int) ≠ 0 := by omega
    have hmd : ((m : Nat) : Int) ≠ 0 ∧ ((m : Nat) : Int).natAbs < 1073741824 := ⟨by omega, by omega⟩
    have done : ∀ (H' : Hp) (d : Int), SH H H' → HandAt H' h cl → 0 ≤ d → d < (m : Nat) → Q (.int d) H' := fun H' d s1 h1 h2 h3 => by
      have := k H' d.toNat s1 h1 (by omega)
      rw [Int.toNat_of_nonneg h2] at this
      exact this
    -- the end of the body, from any hand
    obtain ⟨tt, htt, rest⟩ : ∃ tt, PSs (cxOf CX0 P w K mg base N42 "_law_draw" (defScope (top 42)) f cdv A outer s H E).nox ((defBody (top 42)).drop 1) tt ∧
        ∀ (v2 : Option V) (i' : Nat) (b' t' : Int) (H' : Hp), SH H H' → (∀ x u, H x = some u → x ≠ h → H' x = some u) → H' h = some (HO5 cl i' b' t' c) → 0 ≤ b' → 0 ≤ t' → tt { nx := fun _ H' => Q .non H', rt := Q } [some (.ref h), some (.int (m : Nat)), v2, none, none] H' := by
      refine ⟨_, pss_cons (ps_if (pt_cmpR op_gt (pe_ix ix_list (pv 0) pe_int (fun _ _ => rfl)) pe_int (nomark _))
          (pss_cons (ps_set (i := 3) sc42.nd rfl (Or.inl rfl) (pe_op op_modN (pe_callTy call_int1 (by rfl) T.int (by decide +kernel) (pa_cons (pe_ix ix_list (pv 0) pe_int (fun _ _ => rfl)) pa_nil)) (pv 1)))
          (pss_cons (ps_asg (pe_op op_fdivN (pe_ix ix_list (pv 0) pe_int (fun _ _ => rfl)) (pv 1)) (pg_sub (pv 0) pe_int set_list (fun _ => rfl)))
          (pss_one (ps_ret (pv 3))))) pss_nil)
        (pss_cons (ps_asg (pe_op op_add (pe_ix ix_list (pv 0) pe_int (fun _ _ => rfl)) pe_int) (pg_sub (pv 0) pe_int set_list (fun _ => rfl)))
        (pss_cons (ps_set (i := 4) sc42.nd rfl (Or.inl rfl) (pe_op op_modN (pe_callTy call_int1 (by rfl) T.int (by decide +kernel) (pa_cons (pe_op op_mul (pe_callTy call_int1 (by rfl) T.int (by decide +kernel) (pa_cons (pe_op op_add (pe_ix ix_list (pv 0) pe_int (fun _ _ => rfl)) (pe_op op_mul pe_int (pe_ix ix_list (pv 0) pe_int (fun _ _ => rfl)))) pa_nil)) pe_int) pa_nil)) pe_int))
        (pss_cons (ps_set (i := 4) sc42.nd rfl (Or.inl rfl) (pe_op op_modN (pe_callTy call_int1 (by rfl) T.int (by decide +kernel) (pa_cons (pe_op op_mul (pv 4) (pe_op op_add (pe_op op_fdivN (pv 4) pe_int) pe_int)) pa_nil)) pe_int))
        (pss_cons (ps_set (i := 4) sc42.nd rfl (Or.inl rfl) (pe_op op_modN (pe_callTy call_int1 (by rfl) T.int (by decide +kernel) (pa_cons (pe_op op_mul (pv 4) (pe_op op_add (pe_op op_fdivN (pv 4) pe_int) pe_int)) pa_nil)) pe_int))
        (pss_one (ps_ret (pe_op op_modN (pe_callTy call_int1 (by rfl) T.int (by decide +kernel) (pa_cons (pe_op op_fdivN (pv 4) pe_int) pa_nil)) (pv 1)))))))), ?_⟩
      intro v2 i' b' t' H' s1 k1 e1 hb' ht'
      refine ⟨_, rfl, h, _, _, _, rfl, rfl, SqL.of e1, atI_nat (j := 2) rfl, _, _, rfl, rfl, _, rfl, ?_⟩
      refine ite2 (fun q => ?_) (fun q => ?_)
      · refine ⟨_, rfl, h, _, _, _, rfl, rfl, SqL.of e1, atI_nat (j := 2) rfl, .inl ⟨_, rfl, _, rfl, _, _, rfl, rfl, hmm, ?_⟩⟩
        refine ⟨_, rfl, h, _, _, _, rfl, rfl, SqL.of e1, atI_nat (j := 2) rfl, _, rfl, _, _, rfl, rfl, hmd, ?_⟩
        refine ⟨_, rfl, h, _, _, 2, rfl, rfl, e1, by rfl, ?_⟩
        refine ⟨_, rfl, ?_⟩
        have h1 := fmod_nn hb' (show (0 : Int) < (m : Nat) by omega)
        refine done _ _ (fun x o e n => ?_) ?_ h1.1 h1.2
        · have : x ≠ h := fun z => n (by subst z; rw [eh] at e; obtain rfl := Option.some.inj e; exact ⟨_, _, _, _, _, rfl⟩)
          rw [upd_ne this]
          exact s1 x o e n
        · exact HandAt.put eh ⟨_, _, _, _, _, rfl⟩ (fun x u e hx => by rw [upd_ne hx]; exact k1 x u e hx) ec hcells (i' := i') (b' := b'.fdiv (m : Nat)) (s' := t') (c' := c) upd_same (fdiv_nn hb' (by omega)) ht' hc
      · refine ⟨_, rfl, h, _, _, _, rfl, rfl, SqL.of e1, atI_nat (j := 4) rfl, _, _, rfl, rfl, _, rfl, h, _, _, 4, rfl, rfl, e1, by rfl, ?_⟩
        generalize hH2 : upd H' h (.lst (List.set [V.ref cl, V.int (i' : Nat), V.int b', V.int t', V.int c] 4 (V.int (c + 1)))) = H2
        have e2 : H2 h = some (HO5 cl i' b' t' (c + 1)) := by rw [← hH2, upd_same]; rfl
        have fin : SH H H2 ∧ HandAt H2 h cl := by
          refine ⟨fun x o e n => ?_, ?_⟩
          · have : x ≠ h := fun z => n (by subst z; rw [eh] at e; obtain rfl := Option.some.inj e; exact ⟨_, _, _, _, _, rfl⟩)
            rw [← hH2, upd_ne this]
            exact s1 x o e n
          · exact HandAt.put eh ⟨_, _, _, _, _, rfl⟩ (fun x u e hx => by rw [← hH2, upd_ne hx]; exact k1 x u e hx) ec hcells e2 hb' ht' (by omega)
        have n1 := fmod_nn (a := (t' + 7919 * (c + 1)) * 48271) (m := 2147483647) (by omega) (by decide)
        refine ⟨_, rfl, h, _, _, _, rfl, rfl, SqL.of e2, atI_nat (j := 3) rfl, _, rfl, h, _, _, _, rfl, rfl, SqL.of e2, atI_nat (j := 4) rfl, _, _, rfl, rfl, .inl ⟨by decide, by decide⟩, _, _, rfl, rfl, .inl ⟨_, rfl, _, _, rfl, rfl, .inr ⟨by decide, by decide⟩, .inl ⟨_, rfl, _, _, rfl, rfl, (by show (2147483647 : Int) ≠ 0; decide), ?_⟩⟩⟩
        have n2 := fmod_nn (a := ((t' + 7919 * (c + 1)) * 48271).fmod 2147483647 * ((((t' + 7919 * (c + 1)) * 48271).fmod 2147483647).fdiv 1009 + 69621)) (m := 2147483647) (mul_nn n1.1 (fdiv_nn n1.1 (by decide)) (by decide)) (by decide)
        refine ⟨_, rfl, _, rfl, _, _, rfl, rfl, ⟨by decide, by decide⟩, _, _, rfl, rfl, _, _, rfl, rfl, .inl (sm n1.1 n1.2), .inl ⟨_, rfl, _, _, rfl, rfl, (by show (2147483647 : Int) ≠ 0; decide), ?_⟩⟩
        have n3 := fmod_nn (a := (((t' + 7919 * (c + 1)) * 48271).fmod 2147483647 * ((((t' + 7919 * (c + 1)) * 48271).fmod 2147483647).fdiv 1009 + 69621)).fmod 2147483647 * (((((t' + 7919 * (c + 1)) * 48271).fmod 2147483647 * ((((t' + 7919 * (c + 1)) * 48271).fmod 2147483647).fdiv 1009 + 69621)).fmod 2147483647).fdiv 2003 + 40692)) (m := 2147483399) (mul_nn n2.1 (fdiv_nn n2.1 (by decide)) (by decide)) (by decide)
        refine ⟨_, rfl, _, rfl, _, _, rfl, rfl, ⟨by decide, by decide⟩, _, _, rfl, rfl, _, _, rfl, rfl, .inl (sm n2.1 n2.2), .inl ⟨_, rfl, _, _, rfl, rfl, (by show (2147483399 : Int) ≠ 0; decide), ?_⟩⟩
        refine ⟨_, rfl, _, _, rfl, rfl, ⟨by decide, by decide⟩, .inl ⟨_, rfl, _, rfl, _, _, rfl, rfl, hmm, ?_⟩⟩
        have n4 := fmod_nn (fdiv_nn (m := 16) n3.1 (by decide)) (show (0 : Int) < (m : Nat) by omega)
        exact done _ _ fin.1 fin.2 n4.1 n4.2
    refine ⟨_, pss_cons (ps_if (PW.pt (pw_and (pt_cmpR op_eq (pe_ix ix_list (pv 0) pe_int (fun _ _ => rfl)) pe_int (nomark _)) (pw_and1 (pt_cmpR op_lt (pe_ix ix_list (pv 0) pe_int (fun _ _ => rfl)) (pe_len T.len (pe_ix ix_list (pv 0) pe_int (fun _ _ => rfl))) (nomark _)))))
        (pss_cons (ps_set (i := 2) sc42.nd rfl (Or.inl rfl) (pe_ix ix_list (pe_ix ix_list (pv 0) pe_int (fun _ _ => rfl)) (pe_ix ix_list (pv 0) pe_int (fun _ _ => rfl)) (fun _ _ => rfl)))
        (pss_cons (ps_asg (pe_op op_add (pe_ix ix_list (pv 0) pe_int (fun _ _ => rfl)) pe_int) (pg_sub (pv 0) pe_int set_list (fun _ => rfl)))
        (pss_cons (ps_asg (pe_op op_modN (pe_callTy call_int1 (by rfl) T.int (by decide +kernel) (pa_cons (pe_op op_add (pe_op op_add (pe_op op_mul (pe_ix ix_list (pv 0) pe_int (fun _ _ => rfl)) pe_int) (pv 2)) pe_int) pa_nil)) pe_int) (pg_sub (pv 0) pe_int set_list (fun _ => rfl)))
        (pss_one (ps_if (pt_cmpR op_ge (pv 2) (pe_op op_pow pe_int pe_int) (nomark _)) (pss_one (ps_asg (pv 2) (pg_sub (pv 0) pe_int set_list (fun _ => rfl)))) pss_nil))))) pss_nil) htt, ?_⟩
    have off : ∀ (H' : Hp), (∀ x u, H x = some u → x ≠ h → H' x = some u) → SH H H' := fun H' k1 x o e n => k1 x o e fun z => n (by subst z; rw [eh] at e; obtain rfl := Option.some.inj e; exact ⟨_, _, _, _, _, rfl⟩)
    refine ⟨_, rfl, h, _, _, _, rfl, rfl, SqL.of eh, atI_nat (j := 2) rfl, rfl, _, rfl, ?_⟩
    have base0 := rest none i b t H (SH.refl H) (fun x u e _ => e) eh hb ht
    refine ite2 (fun q => ?_) (fun q => base0)
    refine ⟨_, rfl, h, _, _, _, rfl, rfl, SqL.of eh, atI_nat (j := 1) rfl, _, rfl, h, _, _, _, rfl, rfl, SqL.of eh, atI_nat (j := 0) rfl, _, _, rfl, .inl ⟨_, SqL.of ec, rfl⟩, _, _, rfl, rfl, _, rfl, ?_⟩
    refine ite2 (fun q => ?_) (fun q => base0)
    have q : (i : Int) < (cells.map V.int).length := of_decide_eq_true q
    rw [List.length_map] at q
    have hx : cells[i]? = some (cells[i]'(by omega)) := List.getElem?_eq_getElem (by omega)
    generalize cells[i]'(by omega) = x at hx
    have hx0 := hcells x (List.mem_of_getElem? hx)
    refine ⟨_, rfl, h, _, _, _, rfl, rfl, SqL.of eh, atI_nat (j := 0) rfl, _, rfl, h, _, _, _, rfl, rfl, SqL.of eh, atI_nat (j := 1) rfl, cl, _, _, .int x, rfl, rfl, SqL.of ec, atI_nat (j := i) (by rw [List.getElem?_map, hx]; rfl), ?_⟩
    refine ⟨_, rfl, h, _, _, _, rfl, rfl, SqL.of eh, atI_nat (j := 1) rfl, _, _, rfl, rfl, _, rfl, h, _, _, 1, rfl, rfl, eh, by rfl, ?_⟩
    generalize hH1 : upd H h (.lst (List.set [V.ref cl, V.int (i : Nat), V.int b, V.int t, V.int c] 1 (V.int ((i : Nat) + 1)))) = H1
    have e1 : H1 h = some (HO5 cl ((i : Nat) + 1) b t c) := by rw [← hH1, upd_same]; rfl
    have k1 : ∀ x u, H x = some u → x ≠ h → H1 x = some u := fun x u e hx => by rw [← hH1, upd_ne hx]; exact e
    refine ⟨_, rfl, h, _, _, _, rfl, rfl, SqL.of e1, atI_nat (j := 3) rfl, _, _, rfl, rfl, .inr ⟨by decide, by decide⟩, _, rfl, _, _, rfl, rfl, _, _, rfl, rfl, .inl ⟨_, rfl, _, _, rfl, rfl, (by show (2147483629 : Int) ≠ 0; decide), _, rfl, h, _, _, 3, rfl, rfl, e1, by rfl, ?_⟩⟩
    have nt := fmod_nn (a := t * 69621 + x + 11) (m := 2147483629) (by omega) (by decide)
    generalize hH2 : upd H1 h (.lst (List.set [V.ref cl, V.int ((i : Nat) + 1), V.int b, V.int t, V.int c] 3 (V.int ((t * 69621 + x + 11).fmod 2147483629)))) = H2
    have e2 : H2 h = some (HO5 cl ((i + 1 : Nat)) b ((t * 69621 + x + 11).fmod 2147483629) c) := by rw [← hH2, upd_same]; rfl
    have k2 : ∀ x u, H x = some u → x ≠ h → H2 x = some u := fun x u e hx => by rw [← hH2, upd_ne hx]; exact k1 x u e hx
    refine ⟨_, rfl, _, _, rfl, rfl, ⟨by decide, by decide, by decide⟩, _, _, rfl, rfl, _, rfl, ?_⟩
    refine ite2 (fun q => ?_) (fun q => ?_)
    · refine ⟨_, rfl, _, rfl, h, _, _, 2, rfl, rfl, e2, by rfl, ?_⟩
      have k3 : ∀ y u, H y = some u → y ≠ h → (upd H2 h (HO5 cl ((i + 1 : Nat)) x ((t * 69621 + x + 11).fmod 2147483629) c)) y = some u := fun y u e hx => by rw [upd_ne hx]; exact k2 y u e hx
      exact rest _ (i + 1) x _ _ (off _ k3) k3 upd_same hx0 nt.1
    · exact rest _ (i + 1) b _ H2 (off _ k2) k2 e2 hb nt.1
end
end Ep
end
section
set_option linter.all false
set_option maxRecDepth 100000
/-! EpL3: the law's text, texts. -/
namespace Ep
open PySem PySem.W PySem.Calls PyProof.Rows L2 EP EpR
theorem SH.put {H H' : Hp} {p : Addr} {o : HO} (s : SH H H') (n : H p = none) : SH H (upd H' p o) := fun b u e d => by
  rw [upd_ne (ne_of_none e n)]
  exact s b u e d
def lits : List Wd := [[97, 98], [97, 98], [97, 98, 99], [97], [97, 98, 99, 100, 101, 102, 103, 104], [32, 97, 126], [48, 49, 32]]
theorem lits_eq : ([.str "ab", .str "ab", .str "abc", .str "a", .str "abcdefgh", .str " a~", .str "01 "] : List V) = lits.map VS := by decide +kernel
theorem lits_ok : ∀ z ∈ lits, z ≠ [] ∧ z.length ≤ 8 ∧ Sgn z := by unfold Sgn; decide +kernel
def mults : List Nat := [1, 1, 1, 2, 2, 3, 4, 8, 0]
theorem mults_eq : ([.int 1, .int 1, .int 1, .int 2, .int 2, .int 3, .int 4, .int 8, .int 0] : List V) = mults.map fun n : Nat => V.int (n : Nat) := by decide +kernel
theorem mults_ok : ∀ n ∈ mults, n ≤ 8 := by decide +kernel
theorem hd_nats (zs : List Nat) : ¬ Hd (.lst (zs.map fun n : Nat => V.int (n : Nat))) := by
  have := hd_ints (zs.map fun n : Nat => (n : Int))
  rw [List.map_map] at this
  exact this
theorem sgn_app {a b : Wd} (h : Sgn a) (g : Sgn b) : Sgn (a ++ b) := fun c hc => (List.mem_append.mp hc).elim (h c) (g c)
theorem sgn_sub {a b : Wd} (h : Sgn a) (g : ∀ c ∈ b, c ∈ a) : Sgn b := fun c hc => h c (g c hc)
theorem sum_le {ts : List Wd} {m : Nat} (h : ∀ z ∈ ts, z.length ≤ m) : (ts.map List.length).sum ≤ ts.length * m := by
  induction ts with
  | nil => simp
  | cons a r ih =>
    rw [List.map_cons, List.sum_cons, List.length_cons, Nat.succ_mul]
    have := ih fun z hz => h z (List.mem_cons_of_mem _ hz)
    have := h a List.mem_cons_self
    omega
theorem fdiv20 (n : Nat) : Int.fdiv 20 (n : Nat) = ((20 / n : Nat) : Int) := by
  rw [Int.fdiv_eq_ediv_of_nonneg _ (Int.natCast_nonneg _)]
  rfl
def spText : Sp := fun vs H Q _ => ∃ (h cl : Addr) (m : Nat), vs = [.ref h, .int (m : Nat)] ∧ HandAt H h cl ∧ m ≤ 200 ∧ ∀ H' z, SH H H' → HandAt H' h cl → Sgn z → z.length ≤ m → Q (VS z) H'
def spTexts : Sp := fun vs H Q _ => ∃ h cl : Addr, vs = [.ref h, .int 20] ∧ HandAt H h cl ∧ ∀ H' t ts, SH H H' → HandAt H' h cl → TxAt H' t ts → Good ts → (ts.map List.length).sum ≤ 20 → Q (.ref t) H'
section
variable {P : Program} {w : World} {K : PySem.W.Frag} {mg : Str → Option Value} {base : Heap} {CL CM CC : Addr}
abbrev N44 : List Str := ["_law_hand_here", "_law_most", "_law_signs", "_law_text_here", "_law_many", "_law_turn", "_law_at"]
theorem sc44 : FnScope N44 ["_law_hand_here", "_law_most"] (defScope (top 44)) := ⟨rfl, rfl, rfl, by decide +kernel, rfl, by decide +kernel, by decide +kernel⟩
theorem ok_text (T : Txt K mg CL CM CC) (D : Df K mg "_law_text" (top 44) ["_law_hand_here", "_law_most"]) (GD : Cd P w K mg base 1 "_law_draw" spDraw) : Cd P w K mg base 2 "_law_text" spText := by
  refine D.ok sc44 (fun vs H Q E h => ?_) (fun f cdv A outer s H vs Q E hr h => ?_)
  · obtain ⟨h, cl, m, rfl, _⟩ := h
    rfl
  · obtain ⟨h, cl, m, rfl, hh, hm, k⟩ := h
    refine ⟨_, pss_cons (ps_set (i := 2) sc44.nd rfl (Or.inl rfl) (pe_ix ix_list (pe_lst (pa_cons pe_str (pa_cons pe_str (pa_cons pe_str (pa_cons pe_str (pa_cons pe_str (pa_cons pe_str (pa_cons pe_str pa_nil)))))))) (pe_cd GD hr (by decide) (by rfl) (pa_cons (pv 0) (pa_cons pe_int pa_nil))) (fun _ _ => rfl)))
      (pss_cons (ps_set (i := 3) sc44.nd rfl (Or.inl rfl) pe_str)
      (pss_cons (ps_set (i := 4) sc44.nd rfl (Or.inl rfl) (pe_cd GD hr (by decide) (by rfl) (pa_cons (pv 0) (pa_cons (pe_op op_add (pv 1) pe_int) pa_nil))))
      (pss_cons (ps_for PassesOwn.never rfl (pi_range1 (by rfl) T.range (pa_cons (pe_op op_add (pv 1) pe_int) pa_nil)) (pg_name (i := 5) sc44.nd rfl (Or.inl rfl))
        (pss_one (ps_if (pt_cmpR op_lt (pe_lens T.len (pv 3)) (pv 4) (nomark _))
          (pss_one (ps_if (PW.pt (pw_and (pt_cmpR op_gt (pe_lens T.len (pv 3)) pe_int (nomark _)) (pw_and1 (pt_cmpR op_eq (pe_cd GD hr (by decide) (by rfl) (pa_cons (pv 0) (pa_cons pe_int pa_nil))) pe_int (nomark _)))))
            (pss_cons (ps_set (i := 6) sc44.nd rfl (Or.inl rfl) (pe_cd GD hr (by decide) (by rfl) (pa_cons (pv 0) (pa_cons (pe_lens T.len (pv 3)) pa_nil))))
            (pss_one (ps_set (i := 3) sc44.nd rfl (Or.inl rfl) (pe_op op_add_str (pv 3) (pe_slice sl_str (pv 3) (po_some (pv 6)) (po_some (pe_op op_add (pe_op op_add (pv 6) pe_int) (pe_cd GD hr (by decide) (by rfl) (pa_cons (pv 0) (pa_cons pe_int pa_nil))))))))))
            (pss_one (ps_set (i := 3) sc44.nd rfl (Or.inl rfl) (pe_op op_add_str (pv 3) (pe_ix ix_str (pv 2) (pe_cd GD hr (by decide) (by rfl) (pa_cons (pv 0) (pa_cons (pe_lens T.len (pv 2)) pa_nil))) (fun _ _ => rfl)))))))
          pss_nil)))
      (pss_one (ps_ret (pe_slice sl_str (pv 3) po_none (po_some (pv 4)))))))), ?_⟩
    refine ⟨by decide, fun p hp => ?_⟩
    rw [lits_eq]
    refine ⟨_, rfl, h, cl, 7, rfl, hh.same (put (Same.refl H) hp), by decide, by decide, fun H1 d s1 h1 hd => ?_⟩
    have sg1 : SH H H1 := (Same.sh (put (Same.refl H) hp)).trans s1
    have hdl : lits[d]? = some (lits[d]'hd) := List.getElem?_eq_getElem hd
    generalize lits[d]'hd = sg at hdl
    obtain ⟨g1, g2, g3⟩ := lits_ok sg (List.mem_of_getElem? hdl)
    refine ⟨p, _, _, VS sg, rfl, rfl, SqL.of (s1 _ _ upd_same (hd_strs _)), atI_nat (j := d) (by rw [List.getElem?_map, hdl]; rfl), ?_⟩
    rw [show V.str "" = VS [] from congrArg V.str lit_empty]
    refine ⟨_, rfl, _, rfl, _, _, rfl, rfl, h, cl, m + 1, rfl, h1, by omega, by omega, fun H2 n s2 h2 hn => ?_⟩
    refine ⟨_, rfl, _, _, rfl, rfl, _, rfl, by omega, by omega, for_range (lo := 0) (n := (((m : Nat) : Int) + 1).toNat) (fun i σ H' => ∃ (z : Wd) (v5 v6 : Option V), σ = [some (.ref h), some (.int (m : Nat)), some (VS sg), some (VS z), some (.int (n : Nat)), v5, v6] ∧ SH H H' ∧ HandAt H' h cl ∧ Sgn z ∧ z.length ≤ n + 6)
      ⟨[], none, none, rfl, sg1.trans s2, h2, (fun c hc => nomatch hc), Nat.zero_le _⟩ ?_ ?_⟩
    · rintro i σ H3 hi ⟨z, v5, v6, rfl, s3, h3, sz, lz⟩
      have hzS : (Ep.S z).length ≤ sizeLine := by rw [S_len]; exact line2 (by omega)
      have hgS : (Ep.S sg).length ≤ sizeLine := by rw [S_len]; exact line2 (by omega)
      refine ⟨_, rfl, _, rfl, hzS, _, rfl, _, _, rfl, rfl, _, rfl, ?_⟩
      refine ite2 (fun q => ?_) (fun q => ⟨z, _, _, rfl, s3, h3, sz, lz⟩)
      have q := of_decide_eq_true q
      rw [S_len] at q
      refine ⟨_, rfl, _, rfl, hzS, _, _, rfl, rfl, _, rfl, ?_⟩
      refine ite2 (fun q2 => ?_) (fun q2 => ?_)
      · have q2 := of_decide_eq_true q2
        rw [S_len] at q2
        refine ⟨_, rfl, h, cl, 4, rfl, h3, by decide, by decide, fun H4 d4 s4 h4 hd4 => ⟨rfl, _, rfl, ?_⟩⟩
        have s34 := s3.trans s4
        refine ite2 (fun q3 => ?_) (fun q3 => ?_)
        · refine ⟨_, rfl, _, rfl, _, rfl, hzS, h, cl, z.length, (by show [V.ref h, V.int ((Ep.S z).length : Nat)] = _; rw [S_len]), h4, by omega, by omega, fun H5 d5 s5 h5 hd5 => ?_⟩
          have s35 := s34.trans s5
          refine ⟨_, rfl, _, rfl, _, rfl, _, rfl, _, rfl, _, _, rfl, rfl, _, rfl, h, cl, 6, rfl, h5, by decide, by decide, fun H6 d6 s6 h6 hd6 => ?_⟩
          refine ⟨_, _, rfl, rfl, _, rfl, _, rfl, hzS, ?_⟩
          have ec : cutS (Ep.S z) (some ((d5 : Nat) : Int)) (some (((d5 : Nat) : Int) + 1 + ((d6 : Nat) : Int))) = Ep.S ((z.take (d5 + 1 + d6)).drop d5) := by
            rw [show ((d5 : Nat) : Int) + 1 + ((d6 : Nat) : Int) = ((d5 + 1 + d6 : Nat) : Int) by omega, cut_both]
          refine ⟨_, _, rfl, congrArg V.str ec, ?_, ?_⟩
          · rw [S_len, S_len, List.length_drop, List.length_take]
            exact line2 (by omega)
          · refine ⟨z ++ (z.take (d5 + 1 + d6)).drop d5, _, _, (congrArg (fun v => [some (V.ref h), some (.int (m : Nat)), some (VS sg), some (V.str v), some (.int (n : Nat)), _, _]) (S_app _ _)), s35.trans s6, h6, sgn_app sz (sgn_sub sz fun c hc => mem_part hc), ?_⟩
            · rw [List.length_append, List.length_drop, List.length_take]
              omega
        · refine ⟨_, rfl, _, rfl, _, rfl, _, rfl, _, rfl, hgS, h, cl, sg.length, (by show [V.ref h, V.int ((Ep.S sg).length : Nat)] = _; rw [S_len]), h4, by have := List.length_pos_iff.mpr g1; omega, by omega, fun H5 d5 s5 h5 hd5 => ?_⟩
          have hc : sg[d5]? = some (sg[d5]'hd5) := List.getElem?_eq_getElem hd5
          generalize sg[d5]'hd5 = c at hc
          refine ⟨_, _, c, rfl, rfl, hgS, atI_nat (j := d5) hc, _, Ep.S [c], rfl, rfl, ?_, ?_⟩
          · rw [S_len]
            exact line2 (by show z.length + 1 ≤ _; omega)
          · refine ⟨z ++ [c], _, _, (congrArg (fun v => [some (V.ref h), some (.int (m : Nat)), some (VS sg), some (V.str v), some (.int (n : Nat)), _, _]) (S_app _ _)), s34.trans s5, h5, sgn_app sz (sgn_sub g3 fun x hx => by rw [List.mem_singleton.mp hx]; exact List.mem_of_getElem? hc), ?_⟩
            · rw [List.length_append, List.length_singleton]
              omega
      · refine ⟨_, rfl, _, rfl, _, rfl, _, rfl, _, rfl, hgS, h, cl, sg.length, (by show [V.ref h, V.int ((Ep.S sg).length : Nat)] = _; rw [S_len]), h3, by have := List.length_pos_iff.mpr g1; omega, by omega, fun H5 d5 s5 h5 hd5 => ?_⟩
        have hc : sg[d5]? = some (sg[d5]'hd5) := List.getElem?_eq_getElem hd5
        generalize sg[d5]'hd5 = c at hc
        refine ⟨_, _, c, rfl, rfl, hgS, atI_nat (j := d5) hc, _, Ep.S [c], rfl, rfl, ?_, ?_⟩
        · rw [S_len]
          exact line2 (by show z.length + 1 ≤ _; omega)
        · refine ⟨z ++ [c], _, _, (congrArg (fun v => [some (V.ref h), some (.int (m : Nat)), some (VS sg), some (V.str v), some (.int (n : Nat)), _, _]) (S_app _ _)), s3.trans s5, h5, sgn_app sz (sgn_sub g3 fun x hx => by rw [List.mem_singleton.mp hx]; exact List.mem_of_getElem? hc), ?_⟩
          · rw [List.length_append, List.length_singleton]
            omega
    · rintro σ H3 ⟨z, v5, v6, rfl, s3, h3, sz, lz⟩
      refine ⟨_, rfl, _, rfl, _, rfl, _, rfl, by rw [S_len]; exact line2 (by omega), ?_⟩
      show Q (.str (cutS (Ep.S z) none (some (n : Nat)))) H3
      rw [cut_to]
      exact k _ _ s3 h3 (sgn_sub sz fun c hc => List.mem_of_mem_take hc) (by rw [List.length_take]; omega)
abbrev N45 : List Str := ["_law_hand_here", "_law_most", "_law_many", "_law_found", "_law_turn"]
theorem sc45 : FnScope N45 ["_law_hand_here", "_law_most"] (defScope (top 45)) := ⟨rfl, rfl, rfl, by decide +kernel, rfl, by decide +kernel, by decide +kernel⟩
theorem ok_texts (T : Txt K mg CL CM CC) (D : Df K mg "_law_texts" (top 45) ["_law_hand_here", "_law_most"]) (GD : Cd P w K mg base 1 "_law_draw" spDraw) (GT : Cd P w K mg base 2 "_law_text" spText) : Cd P w K mg base 3 "_law_texts" spTexts := by
  refine D.ok sc45 (fun vs H Q E h => ?_) (fun f cdv A outer s H vs Q E hr h => ?_)
  · obtain ⟨h, cl, rfl, _⟩ := h
    rfl
  · obtain ⟨h, cl, rfl, hh, k⟩ := h
    refine ⟨_, pss_cons (ps_set (i := 2) sc45.nd rfl (Or.inl rfl) (pe_ix ix_list (pe_lst (pa_cons pe_int (pa_cons pe_int (pa_cons pe_int (pa_cons pe_int (pa_cons pe_int (pa_cons pe_int (pa_cons pe_int (pa_cons pe_int (pa_cons pe_int pa_nil)))))))))) (pe_cd GD hr (by decide) (by rfl) (pa_cons (pv 0) (pa_cons pe_int pa_nil))) (fun _ _ => rfl)))
      (pss_cons (ps_set (i := 3) sc45.nd rfl (Or.inl rfl) (pe_lst pa_nil))
      (pss_cons (ps_for PassesOwn.never rfl (pi_range1 (by rfl) T.range (pa_cons (pv 2) pa_nil)) (pg_name (i := 4) sc45.nd rfl (Or.inl rfl))
        (pss_one (ps_if (PW.pt (pw_and (pt_cmpR op_gt (pe_len T.len (pv 3)) pe_int (nomark _)) (pw_and1 (pt_cmpR op_eq (pe_cd GD hr (by decide) (by rfl) (pa_cons (pv 0) (pa_cons pe_int pa_nil))) pe_int (nomark _)))))
          (pss_one (ps_expr (pe_bm PySem.F.plainAttrs_list PySem.F.slot_list_append PySem.F.type_list_append mt_append (pv 3) (pa_cons (pe_ix ix_list (pv 3) (pe_cd GD hr (by decide) (by rfl) (pa_cons (pv 0) (pa_cons (pe_len T.len (pv 3)) pa_nil))) (fun _ _ => rfl)) pa_nil))))
          (pss_one (ps_expr (pe_bm PySem.F.plainAttrs_list PySem.F.slot_list_append PySem.F.type_list_append mt_append (pv 3) (pa_cons (pe_cd GT hr (by decide) (by rfl) (pa_cons (pv 0) (pa_cons (pe_op op_fdivN (pv 1) (pv 2)) pa_nil))) pa_nil)))))))
      (pss_one (ps_ret (pe_callTy call_tuple_of (by rfl) T.tuple (by decide +kernel) (pa_cons (pv 3) pa_nil)))))), ?_⟩
    refine ⟨by decide, fun p hp => ?_⟩
    rw [mults_eq]
    refine ⟨_, rfl, h, cl, 9, rfl, hh.same (put (Same.refl H) hp), by decide, by decide, fun H1 d s1 h1 hd => ?_⟩
    have sg1 : SH H H1 := (Same.sh (put (Same.refl H) hp)).trans s1
    have hdl : mults[d]? = some (mults[d]'hd) := List.getElem?_eq_getElem hd
    generalize mults[d]'hd = n at hdl
    have hn := mults_ok n (List.mem_of_getElem? hdl)
    refine ⟨p, _, _, .int (n : Nat), rfl, rfl, SqL.of (s1 _ _ upd_same (hd_nats _)), atI_nat (j := d) (by rw [List.getElem?_map, hdl]; rfl), ?_⟩
    refine ⟨by decide, fun F hF => ?_⟩
    have s2 : Same H1 (upd H1 F (.lst [])) := put (Same.refl _) hF
    refine ⟨_, rfl, _, rfl, by omega, by omega, for_range (lo := 0) (n := ((n : Nat) : Int).toNat) (fun i σ H' => ∃ (zs : List Wd) (v : Option V), σ = [some (.ref h), some (.int 20), some (.int (n : Nat)), some (.ref F), v] ∧ SH H1 H' ∧ HandAt H' h cl ∧ H' F = some (.lst (zs.map VS)) ∧ zs.length = i ∧ ∀ z ∈ zs, z.length ≤ 20 / n ∧ Sgn z)
      ⟨[], none, rfl, Same.sh s2, h1.same s2, upd_same, rfl, (fun z hz => nomatch hz)⟩ ?_ ?_⟩
    · rintro i σ H3 hi ⟨zs, v, rfl, s3, h3, e3, l3, a3⟩
      have hn0 : 0 < n := by omega
      have nFh : h ≠ F := by
        obtain ⟨cells, i', b, t, c, hx, _⟩ := h3.ex
        exact ne_of hx e3 fun q => hd_strs zs (by rw [← q]; exact ⟨_, _, _, _, _, rfl⟩)
      have nFc : cl ≠ F := by
        obtain ⟨cells, i', b, t, c, _, hx, _⟩ := h1.ex
        exact ne_of_none hx hF
      have hand : ∀ {H' : Hp} {o : HO}, HandAt H' h cl → HandAt (upd H' F o) h cl := fun {H' o} hx => by
        obtain ⟨cells, i', b, t, c, e1, e2, r⟩ := hx.ex
        exact ⟨cells, i', b, t, c, by rw [upd_ne nFh]; exact e1, by rw [upd_ne nFc]; exact e2, r⟩
      have step : ∀ (H4 : Hp) (z : Wd) (v : Option V), SH H1 H4 → HandAt H4 h cl → H4 F = some (.lst (zs.map VS)) → z.length ≤ 20 / n → Sgn z →
          ∃ (zs' : List Wd) (v' : Option V), [some (.ref h), some (.int 20), some (.int (n : Nat)), some (.ref F), v] = [some (.ref h), some (.int 20), some (.int (n : Nat)), some (.ref F), v'] ∧ SH H1 (upd H4 F (.lst (zs.map VS ++ [VS z]))) ∧ HandAt (upd H4 F (.lst (zs.map VS ++ [VS z]))) h cl ∧ (upd H4 F (.lst (zs.map VS ++ [VS z]))) F = some (.lst (zs'.map VS)) ∧ zs'.length = i + 1 ∧ ∀ z ∈ zs', z.length ≤ 20 / n ∧ Sgn z := fun H4 z v s4 h4 e4 lz sz => by
        refine ⟨zs ++ [z], v, rfl, s4.put hF, hand h4, by rw [upd_same, List.map_append]; rfl, by rw [List.length_append, l3]; rfl, fun y hy => ?_⟩
        rcases List.mem_append.mp hy with hy | hy
        · exact a3 y hy
        · rw [List.mem_singleton.mp hy]
          exact ⟨lz, sz⟩
      have hzl : zs.length ≤ 8 := by omega
      refine ⟨_, rfl, _, _, rfl, .inl ⟨_, SqL.of e3, rfl⟩, _, _, rfl, rfl, _, rfl, ?_⟩
      refine ite2 (fun q => ?_) (fun q => ?_)
      · have q := of_decide_eq_true q
        rw [List.length_map] at q
        refine ⟨_, rfl, h, cl, 6, rfl, h3, by decide, by decide, fun H4 d4 s4 h4 hd4 => ⟨rfl, _, rfl, ?_⟩⟩
        have e4 := s4 _ _ e3 (hd_strs _)
        refine ite2 (fun q3 => ?_) (fun q3 => ?_)
        · refine ⟨_, rfl, .inl ⟨rfl, _, SqL.of e4⟩, _, rfl, _, rfl, _, rfl, _, _, rfl, .inl ⟨_, SqL.of e4, rfl⟩, h, cl, zs.length, (by show [V.ref h, V.int ((zs.map VS).length : Nat)] = _; rw [List.length_map]), h4, by omega, by omega, fun H5 d5 s5 h5 hd5 => ?_⟩
          have hz5 : zs[d5]? = some (zs[d5]'hd5) := List.getElem?_eq_getElem hd5
          generalize zs[d5]'hd5 = z at hz5
          have e5 := s5 _ _ e4 (hd_strs _)
          obtain ⟨lz, sz⟩ := a3 z (List.mem_of_getElem? hz5)
          refine ⟨F, _, _, VS z, rfl, rfl, SqL.of e5, atI_nat (j := d5) (by rw [List.getElem?_map, hz5]; rfl), F, _, _, rfl, rfl, e5, by rw [List.length_map]; exact line1 (by omega), ?_⟩
          exact step H5 z _ ((s3.trans s4).trans s5) h5 e5 lz sz
        · refine ⟨_, rfl, .inl ⟨rfl, _, SqL.of e4⟩, _, rfl, _, rfl, _, rfl, _, _, rfl, rfl, ⟨by omega, by omega⟩, h, cl, 20 / n, ?_, h4, by have := Nat.div_le_self 20 n; omega, fun H5 z s5 h5 sz lz => ?_⟩
          · show [V.ref h, V.int (Int.fdiv 20 (n : Nat))] = _
            rw [fdiv20]
          · have e5 := s5 _ _ e4 (hd_strs _)
            refine ⟨F, _, _, rfl, rfl, e5, by rw [List.length_map]; exact line1 (by omega), ?_⟩
            exact step H5 z _ ((s3.trans s4).trans s5) h5 e5 lz sz
      · refine ⟨_, rfl, .inl ⟨rfl, _, SqL.of e3⟩, _, rfl, _, rfl, _, rfl, _, _, rfl, rfl, ⟨by omega, by omega⟩, h, cl, 20 / n, ?_, h3, by have := Nat.div_le_self 20 n; omega, fun H5 z s5 h5 sz lz => ?_⟩
        · show [V.ref h, V.int (Int.fdiv 20 (n : Nat))] = _
          rw [fdiv20]
        · have e5 := s5 _ _ e3 (hd_strs _)
          refine ⟨F, _, _, rfl, rfl, e5, by rw [List.length_map]; exact line1 (by omega), ?_⟩
          exact step H5 z _ (s3.trans s5) h5 e5 lz sz
    · rintro σ H3 ⟨zs, v, rfl, s3, h3, e3, l3, a3⟩
      refine ⟨_, rfl, F, _, rfl, .inl ⟨SqL.of e3, fun t ht => ?_⟩⟩
      have hl : zs.length = n := by omega
      have hz : ∀ z ∈ zs, z.length ≤ 20 / n := fun z hz => (a3 z hz).1
      have hs := sum_le hz
      have hs2 : zs.length * (20 / n) ≤ 20 := by rw [hl]; exact Nat.mul_div_le 20 n
      have s4 : Same H3 (upd H3 t (.tup (zs.map VS))) := put (Same.refl _) ht
      exact k _ t zs ((sg1.trans s3).trans (Same.sh s4)) (h3.same s4) upd_same ⟨by omega, by omega, fun z hz => (a3 z hz).2⟩ (by omega)
end
end Ep
end
section
set_option linter.all false
set_option maxRecDepth 100000
/-! EpL4: the law's pieces. -/
namespace Ep
open PySem PySem.W PySem.Calls PyProof.Rows L2 EP EpR
/-! ### the parts of the texts, in turn -/
def plX (ts : List Wd) (i j : Nat) : List (Pl × Wd) := (List.range ((tx ts i).length - j)).map fun n => ((i, j), cut (tx ts i) j (j + 1 + n))
def rowX (ts : List Wd) (i : Nat) : List (Pl × Wd) := (List.range (tx ts i).length).flatMap (plX ts i)
def allX (ts : List Wd) : List (Pl × Wd) := (List.range ts.length).flatMap (rowX ts)
def pick (d : List (Pl × Wd)) (w : Wd) : List Pl := (d.filter fun x => decide (x.2 = w)).map Prod.fst
theorem pick_app (d e : List (Pl × Wd)) (w : Wd) : pick (d ++ e) w = pick d w ++ pick e w := by unfold pick; rw [List.filter_append, List.map_append]
theorem pick_same (p : Pl) (w : Wd) : pick [(p, w)] w = [p] := by unfold pick; rw [List.filter_cons_of_pos (by exact decide_eq_true rfl)]; rfl
theorem pick_other (p : Pl) {w v : Wd} (h : w ≠ v) : pick [(p, w)] v = [] := by unfold pick; rw [List.filter_cons_of_neg (by simpa using h)]; rfl
theorem pick_len (d : List (Pl × Wd)) (w : Wd) : (pick d w).length ≤ d.length := by unfold pick; rw [List.length_map]; exact List.length_filter_le _ _
theorem range_one (k m : Nat) : (List.range m).filter (fun n => decide (n = k)) = if k < m then [k] else [] := by
  induction m with
  | zero => simp
  | succ m ih =>
    rw [List.range_succ, List.filter_append, ih]
    by_cases h : k < m
    · rw [if_pos h, if_pos (by omega), List.filter_cons_of_neg (by simp; omega)]
      rfl
    · rw [if_neg h]
      by_cases h2 : m = k
      · subst h2
        rw [List.filter_cons_of_pos (by simp), if_pos (by omega)]
        rfl
      · rw [List.filter_cons_of_neg (by simpa using h2), if_neg (by omega)]
        rfl
theorem cut_is {t w : Wd} {j n : Nat} (h : n < t.length - j) : cut t j (j + 1 + n) = w ↔ (w <+: t.drop j ∧ w.length = n + 1) := by
  unfold cut
  rw [List.drop_take, show j + 1 + n - j = n + 1 by omega]
  constructor
  · rintro rfl
    refine ⟨List.take_prefix _ _, ?_⟩
    rw [List.length_take, List.length_drop]
    omega
  · rintro ⟨h1, h2⟩
    rw [← h2]
    exact (List.prefix_iff_eq_take.mp h1).symm
theorem pick_pl (ts : List Wd) {w : Wd} (hw : w ≠ []) (i j : Nat) : pick (plX ts i j) w = if w <+: suf ts (i, j) then [(i, j)] else [] := by
  have hl : 0 < w.length := List.length_pos_iff.mpr hw
  unfold pick plX
  rw [List.filter_map, List.map_map]
  have e : (List.range ((tx ts i).length - j)).filter ((fun x : Pl × Wd => decide (x.2 = w)) ∘ fun n => ((i, j), cut (tx ts i) j (j + 1 + n))) = (List.range ((tx ts i).length - j)).filter fun n => decide (n = w.length - 1) && decide (w <+: suf ts (i, j)) := by
    refine List.filter_congr fun n hn => ?_
    have hn := List.mem_range.mp hn
    show decide (cut (tx ts i) j (j + 1 + n) = w) = _
    rw [← Bool.decide_and, decide_eq_decide, cut_is hn]
    unfold suf
    constructor
    · rintro ⟨a, b⟩
      exact ⟨by omega, a⟩
    · rintro ⟨a, b⟩
      exact ⟨b, by omega⟩
  rw [e]
  by_cases h : w <+: suf ts (i, j)
  · rw [if_pos h]
    have h2 := h.length_le
    rw [suf_len] at h2
    have h2 : w.length ≤ (tx ts i).length - j := h2
    have e2 : (List.range ((tx ts i).length - j)).filter (fun n => decide (n = w.length - 1) && decide (w <+: suf ts (i, j))) = [w.length - 1] := by
      have := range_one (w.length - 1) ((tx ts i).length - j)
      rw [if_pos (by omega)] at this
      rw [← this]
      refine List.filter_congr fun n _ => ?_
      rw [decide_eq_true h, Bool.and_true]
    rw [e2]
    rfl
  · rw [if_neg h]
    have e2 : (List.range ((tx ts i).length - j)).filter (fun n => decide (n = w.length - 1) && decide (w <+: suf ts (i, j))) = [] := by
      rw [List.filter_eq_nil_iff]
      intro n _ hn
      rw [decide_eq_false h, Bool.and_false] at hn
      cases hn
    rw [e2]
    rfl
theorem pick_flat {α : Type} (l : List α) (f : α → List (Pl × Wd)) (w : Wd) : pick (l.flatMap f) w = l.flatMap fun a => pick (f a) w := by
  unfold pick
  rw [List.filter_flatMap, List.map_flatMap]
theorem pick_all (ts : List Wd) {w : Wd} (hw : w ≠ []) : pick (allX ts) w = occ ts w := by
  unfold allX occ allP
  rw [pick_flat, List.filter_flatMap]
  refine congrArg (fun f => List.flatMap f (List.range ts.length)) ?_
  funext i
  unfold rowX rowP
  rw [pick_flat, List.filter_map]
  induction List.range (tx ts i).length with
  | nil => rfl
  | cons j r ih =>
    rw [List.flatMap_cons, ih, pick_pl ts hw]
    by_cases h : w <+: suf ts (i, j)
    · rw [if_pos h, List.filter_cons_of_pos (by exact decide_eq_true h)]
      rfl
    · rw [if_neg h, List.filter_cons_of_neg (by simpa using h)]
      rfl
theorem mem_allX (ts : List Wd) (w : Wd) : (∃ x ∈ allX ts, x.2 = w) ↔ w ≠ [] ∧ occ ts w ≠ [] := by
  constructor
  · rintro ⟨⟨p, v⟩, hx, rfl⟩
    have hne : v ≠ [] := by
      unfold allX rowX plX at hx
      simp only [List.mem_flatMap, List.mem_map, List.mem_range] at hx
      obtain ⟨i, hi, j, hj, n, hn, e⟩ := hx
      have e := (Prod.mk.inj e).2
      intro z
      rw [z] at e
      have h1 := (cut_is hn).mp e
      have := h1.2
      simp at this
    refine ⟨hne, fun z => ?_⟩
    rw [← pick_all ts hne] at z
    have : p ∈ pick (allX ts) v := List.mem_map.mpr ⟨(p, v), List.mem_filter.mpr ⟨hx, by simp⟩, rfl⟩
    rw [z] at this
    cases this
  · rintro ⟨h1, h2⟩
    obtain ⟨p, hp⟩ := occ_ne h2
    rw [← pick_all ts h1] at hp
    obtain ⟨x, hx, _⟩ := List.mem_map.mp hp
    have := List.mem_filter.mp hx
    exact ⟨x, this.1, by simpa using this.2⟩
/-! ### the dict of lists -/
def encE (es : List (Wd × Addr)) : List (Key × V) := es.map fun e => (kT e.1, V.ref e.2)
theorem encE_val (w : Wd) : ∀ es : List (Wd × Addr), valV (encE es) (kT w) = (es.find? fun e => decide (e.1 = w)).map fun e => V.ref e.2
  | [] => rfl
  | e :: es => by
    have ih := encE_val w es
    unfold encE at ih ⊢
    rw [List.map_cons]
    by_cases h : e.1 = w
    · rw [valV_pos (by rw [h]), List.find?_cons_of_pos (by simpa using h)]
      rfl
    · rw [valV_neg (fun z => h (kT_inj _ _ z)), ih, List.find?_cons_of_neg (by simpa using h)]
theorem encE_some {es : List (Wd × Addr)} {w : Wd} {v : V} (h : valV (encE es) (kT w) = some v) : ∃ a, v = .ref a ∧ (w, a) ∈ es := by
  rw [encE_val] at h
  obtain ⟨e, he, rfl⟩ := Option.map_eq_some_iff.mp h
  have h1 := List.find?_some he
  have h2 := List.mem_of_find?_eq_some he
  simp only [decide_eq_true_eq] at h1
  exact ⟨e.2, rfl, by rw [← h1]; exact h2⟩
theorem encE_none {es : List (Wd × Addr)} {w : Wd} (h : valV (encE es) (kT w) = none) : w ∉ es.map Prod.fst := by
  rw [encE_val, Option.map_eq_none_iff, List.find?_eq_none] at h
  intro hm
  obtain ⟨e, he, rfl⟩ := List.mem_map.mp hm
  have := h e he
  simp at this
structure PcI (H0 H : Hp) (d : Addr) (done : List (Pl × Wd)) (n : Nat) : Prop where
  ex : ∃ es : List (Wd × Addr), H d = some (.dK (encE es)) ∧ (es.map Prod.fst).Nodup ∧ (es.map Prod.snd).Nodup ∧ (∀ e ∈ es, H0 e.2 = none ∧ PL H e.2 (pick done e.1)) ∧ (∀ w, w ∈ es.map Prod.fst ↔ ∃ x ∈ done, x.2 = w) ∧ es.length ≤ n
  same : Same H0 H
  len : done.length ≤ n
  d0 : H0 d = none
theorem PL.other {H : Hp} {l a q : Addr} {ps : List Pl} {xs ys : List V} {o : HO} (h : PL H l ps) (ha : H a = some (.lst xs)) (n : l ≠ a) (hq : H q = none) : PL (upd (upd H q o) a (.lst ys)) l ps := by
  obtain ⟨zs, hz, e⟩ := h
  refine ⟨zs, ⟨by rw [upd_ne n]; exact upd_eq hz.1 hq, fun z hz' => ?_⟩, e⟩
  have h1 := hz.2 z hz'
  rw [upd_ne (ne_of h1 ha (by intro q; cases q))]
  exact upd_eq h1 hq
theorem pc_step {H0 H : Hp} {d a q : Addr} {done : List (Pl × Wd)} {n : Nat} {es : List (Wd × Addr)} {w : Wd} {p : Pl} {zs : List (Addr × Pl)} {o : HO} (ho : o = PlO p) (hd : H d = some (.dK (encE es))) (n1 : (es.map Prod.fst).Nodup) (n2 : (es.map Prod.snd).Nodup)
    (hl : ∀ e ∈ es, H0 e.2 = none ∧ (e.1 ≠ w → PL H e.2 (pick done e.1))) (hwa : (w, a) ∈ es) (hz : ZL H a zs) (hzs : zs.map Prod.snd = pick done w) (hm : ∀ v, v ∈ es.map Prod.fst ↔ v = w ∨ ∃ x ∈ done, x.2 = v) (hlen : es.length ≤ n + 1) (hdl : done.length ≤ n)
    (s : Same H0 H) (d0 : H0 d = none) (hq : H q = none) : PcI H0 (upd (upd H q o) a (.lst (zs.map (fun z => V.ref z.1) ++ [V.ref q]))) d (done ++ [(p, w)]) (n + 1) := by
  have nda : d ≠ a := ne_of hd hz.1 (by intro q; cases q)
  refine ⟨⟨es, by rw [upd_ne nda]; exact upd_eq hd hq, n1, n2, fun e he => ⟨(hl e he).1, ?_⟩, fun v => ?_, hlen⟩, put (put s (s.free hq)) (hl _ hwa).1, by rw [List.length_append, List.length_singleton]; omega, d0⟩
  · by_cases h : e.1 = w
    · have e1 : e = (w, a) := by
        obtain ⟨i, hi⟩ := List.getElem?_of_mem he
        obtain ⟨j, hj⟩ := List.getElem?_of_mem hwa
        have hi' : (es.map Prod.fst)[i]? = some w := by rw [List.getElem?_map, hi]; exact congrArg some h
        have hj' : (es.map Prod.fst)[j]? = some w := by rw [List.getElem?_map, hj]; rfl
        obtain ⟨i1, i2⟩ := List.getElem?_eq_some_iff.mp hi'
        obtain ⟨j1, j2⟩ := List.getElem?_eq_some_iff.mp hj'
        have : i = j := by
          rcases Nat.lt_trichotomy i j with t | t | t
          · exact absurd (i2.trans j2.symm) (List.pairwise_iff_getElem.mp n1 i j i1 j1 t)
          · exact t
          · exact absurd (j2.trans i2.symm) (List.pairwise_iff_getElem.mp n1 j i j1 i1 t)
        subst this
        rw [hi] at hj
        exact Option.some.inj hj
      subst e1
      refine ⟨zs ++ [(q, p)], ZL.snoc ho hz hq, ?_⟩
      rw [List.map_append, hzs, pick_app, pick_same]
      rfl
    · rw [pick_app, pick_other p (fun z => h z.symm), List.append_nil]
      refine PL.other ((hl e he).2 h) hz.1 (fun z => h ?_) hq
      have hi := List.getElem?_of_mem he
      have hj := List.getElem?_of_mem hwa
      obtain ⟨i, hi⟩ := hi
      obtain ⟨j, hj⟩ := hj
      have hi' : (es.map Prod.snd)[i]? = some a := by rw [List.getElem?_map, hi]; exact congrArg some z
      have hj' : (es.map Prod.snd)[j]? = some a := by rw [List.getElem?_map, hj]; rfl
      obtain ⟨i1, i2⟩ := List.getElem?_eq_some_iff.mp hi'
      obtain ⟨j1, j2⟩ := List.getElem?_eq_some_iff.mp hj'
      have : i = j := by
        rcases Nat.lt_trichotomy i j with t | t | t
        · exact absurd (i2.trans j2.symm) (List.pairwise_iff_getElem.mp n2 i j i1 j1 t)
        · exact t
        · exact absurd (j2.trans i2.symm) (List.pairwise_iff_getElem.mp n2 j i j1 i1 t)
      subst this
      rw [hi] at hj
      rw [Option.some.inj hj]
  · rw [hm v]
    simp only [List.mem_append, List.mem_singleton]
    constructor
    · rintro (rfl | ⟨x, h1, h2⟩)
      · exact ⟨(p, v), .inr rfl, rfl⟩
      · exact ⟨x, .inl h1, h2⟩
    · rintro ⟨x, h1 | rfl, h2⟩
      · exact .inr ⟨x, h1, h2⟩
      · exact .inl h2.symm
/-- the dict of the pieces: each with its places -/
structure PcAt (H : Hp) (d : Addr) (ts : List Wd) (es : List (Wd × Addr)) : Prop where
  at_ : H d = some (.dK (encE es))
  nd : (es.map Prod.fst).Nodup
  pl : ∀ e ∈ es, PL H e.2 (occ ts e.1)
  mem : ∀ w, w ∈ es.map Prod.fst ↔ w ≠ [] ∧ occ ts w ≠ []
  len : es.length ≤ 4000
def spPcs : Sp := fun vs H Q _ => ∃ (t : Addr) (ts : List Wd), vs = [.ref t] ∧ TxAt H t ts ∧ Good ts ∧ (ts.map List.length).sum ≤ 20 ∧ ∀ H' d es, Same H H' → PcAt H' d ts es → Q (.ref d) H'
section
variable {P : Program} {w : World} {K : PySem.W.Frag} {mg : Str → Option Value} {base : Heap} {CL CM CC : Addr}
abbrev N46 : List Str := ["_law_texts_here", "_law_found", "_law_number", "_law_text_here", "_law_at", "_law_end"]
theorem sc46 : FnScope N46 ["_law_texts_here"] (defScope (top 46)) := ⟨rfl, rfl, rfl, by decide +kernel, rfl, by decide +kernel, by decide +kernel⟩
theorem ok_pcs (T : Txt K mg CL CM CC) (D : Df K mg "_law_pieces" (top 46) ["_law_texts_here"]) : Cd P w K mg base 1 "_law_pieces" spPcs := by
  refine D.ok sc46 (fun vs H Q E h => ?_) (fun f cdv A outer s H vs Q E hr h => ?_)
  · obtain ⟨t, ts, rfl, _⟩ := h
    rfl
  · obtain ⟨t, ts, rfl, ht, hg, h20, k⟩ := h
    have hu := hu_of hr
    refine ⟨_, pss_cons (ps_set (i := 1) sc46.nd rfl (Or.inl rfl) pe_dnewK)
      (pss_cons (ps_for PassesOwn.never rfl (pi_enumT (by rfl) T.enumerate (pa_cons (pv 0) pa_nil)) (pg_tup rfl (pgs_cons (pg_name (i := 2) sc46.nd rfl (Or.inl rfl)) (pgs_cons (pg_name (i := 3) sc46.nd rfl (Or.inl rfl)) pgs_nil)))
        (pss_one (ps_for PassesOwn.never rfl (pi_range1 (by rfl) T.range (pa_cons (pe_lens T.len (pv 3)) pa_nil)) (pg_name (i := 4) sc46.nd rfl (Or.inl rfl))
          (pss_one (ps_for PassesOwn.never rfl (pi_range2 (by rfl) T.range (pa_cons (pe_op op_add (pv 4) pe_int) (pa_cons (pe_op op_add (pe_lens T.len (pv 3)) pe_int) pa_nil))) (pg_name (i := 5) sc46.nd rfl (Or.inl rfl))
            (pss_one (ps_expr (pe_bm PySem.F.plainAttrs_list PySem.F.slot_list_append PySem.F.type_list_append mt_append
              (pe_dsetd (pv 1) (pe_slice sl_str (pv 3) (po_some (pv 4)) (po_some (pv 5))) (pe_lst pa_nil) ⟨rfl, rfl, rfl, rfl⟩) (pa_cons (pe_tup (pa_cons (pv 2) (pa_cons (pv 4) pa_nil))) pa_nil)))))))))
      (pss_one (ps_ret (pv 1)))), ?_⟩
    intro d hd
    have s0 : Same H (upd H d (.dK [])) := put (Same.refl H) hd
    have hsz : ∀ t' ∈ ts, t'.length ≤ 20 := fun t' h => Nat.le_trans (le_sum (List.mem_map_of_mem h)) h20
    refine ⟨_, rfl, t, _, rfl, SqT.of (s0 _ _ ht), for_it (walk_enumT (xs := ts.map VS)) (fun i σ H' => ∃ v2 v3 v4 v5, σ = [some (.ref t), some (.ref d), v2, v3, v4, v5] ∧ PcI H H' d ((List.range i).flatMap (rowX ts)) (i * 400)) ⟨none, none, none, none, rfl, ⟨[], upd_same, List.nodup_nil, List.nodup_nil, (fun e h => nomatch h), (fun v => ⟨(fun h => nomatch h), (fun ⟨x, h, _⟩ => nomatch h)⟩), Nat.zero_le _⟩, s0, Nat.zero_le _, hd⟩ (fun i σ H' _ ⟨_, _, _, _, _, I⟩ => SqT.of (I.same _ _ ht)) ?_ ?_⟩
    · rintro i x σ H1 H2 hi ⟨v2, v3, v4, v5, rfl, I1⟩ ⟨a, y, u, rfl, n1, rfl, e2, e3⟩
      obtain ⟨t', h1, rfl⟩ := at_map e3
      obtain rfl := Option.some.inj e2
      have hm := List.mem_of_getElem? h1
      have hi' : i < ts.length := by rw [List.length_map] at hi; exact hi
      have et : tx ts i = t' := tx_of h1
      have htl := hsz _ hm
      have hfew := hg.few
      have htS : (Ep.S t').length ≤ sizeLine := by rw [S_len]; exact line2 (by omega)
      have I2 : PcI H (upd H1 a (.tup [.int (i : Nat), VS t'])) d ((List.range i).flatMap (rowX ts)) (i * 400) := by
        obtain ⟨es, a1, a2, a3, a4, a5, a6⟩ := I1.ex
        have s2 : Same H1 (upd H1 a (.tup [.int (i : Nat), VS t'])) := put (Same.refl H1) n1
        exact ⟨⟨es, s2 _ _ a1, a2, a3, fun e he => ⟨(a4 e he).1, (a4 e he).2.same s2⟩, a5, a6⟩, I1.same.trans s2, I1.len, hd⟩
      refine ⟨_, _, rfl, SqT.of upd_same, rfl, _, _, rfl, _, _, rfl, rfl, ?_⟩
      refine ⟨_, rfl, _, rfl, htS, _, rfl, by rw [S_len]; omega, by rw [S_len]; omega, ?_⟩
      rw [S_len, Int.toNat_natCast]
      refine for_range (lo := 0) (n := t'.length) (fun j σ H' => ∃ v4 v5, σ = [some (.ref t), some (.ref d), some (.int (i : Nat)), some (VS t'), v4, v5] ∧ PcI H H' d ((List.range i).flatMap (rowX ts) ++ (List.range j).flatMap (plX ts i)) (i * 400 + j * 20)) ⟨_, _, rfl, by simpa using I2⟩ ?_ ?_
      · rintro j σ H3 hj ⟨v4, v5, rfl, I3⟩
        rw [Int.zero_add]
        refine ⟨_, rfl, _, _, rfl, rfl, _, rfl, _, rfl, htS, _, _, rfl, rfl, _, _, rfl, ?_, ?_⟩
        · rw [S_len]; omega
        rw [S_len]
        have en : (((t'.length : Nat) : Int) + 1 - (((j : Nat) : Int) + 1)).toNat = t'.length - j := by omega
        rw [en]
        refine for_range (lo := (j : Nat) + 1) (n := t'.length - j) (fun e σ H' => ∃ v5, σ = [some (.ref t), some (.ref d), some (.int (i : Nat)), some (VS t'), some (.int (j : Nat)), v5] ∧ PcI H H' d ((List.range i).flatMap (rowX ts) ++ (List.range j).flatMap (plX ts i) ++ (List.range e).map fun n => ((i, j), cut t' j (j + 1 + n))) (i * 400 + j * 20 + e)) ⟨_, rfl, by simpa using I3⟩ ?_ ?_
        · rintro e σ H4 he ⟨v5, rfl, I4⟩
          obtain ⟨es, a1, a2, a3, a4, a5, a6⟩ := I4.ex
          have hel : es.length ≤ 4000 := by omega
          have ek : cutS (Ep.S t') (some ((j : Nat) : Int)) (some (((j : Nat) : Int) + 1 + (e : Nat))) = Ep.S (cut t' j (j + 1 + e)) := by
            rw [show ((j : Nat) : Int) + 1 + (e : Nat) = ((j + 1 + e : Nat) : Int) by omega, cut_both]
            rfl
          refine ⟨_, rfl, d, rfl, .inl ⟨_, .inl a1⟩, _, rfl, _, rfl, _, rfl, _, rfl, _, rfl, _, rfl, htS, by decide, fun L hL => ?_⟩
          have sL : Same H4 (upd H4 L (.lst [])) := put (Same.refl _) hL
          have hL0 : H L = none := I4.same.free hL
          have ndL : d ≠ L := ne_of_none a1 hL
          have step : ∀ (e' : Nat), (List.range (e' + 1)).map (fun n => ((i, j), cut t' j (j + 1 + n))) = (List.range e').map (fun n => ((i, j), cut t' j (j + 1 + n))) ++ [((i, j), cut t' j (j + 1 + e'))] := fun e' => by
            rw [List.range_succ, List.map_append]
            rfl
          refine ⟨encE es, kT (cut t' j (j + 1 + e)), sL _ _ a1, congrArg V.str ek, by unfold encE; rw [List.length_map]; exact line1 (by omega), fun v hv => ?_, fun hv => ?_⟩
          · obtain ⟨b, rfl, hb⟩ := encE_some hv
            obtain ⟨b0, zs, hz, hzs⟩ := a4 _ hb
            have hz' := hz.same sL
            have hzl : zs.length ≤ 4000 := by
              have h := congrArg List.length hzs
              rw [List.length_map] at h
              have h1 : zs.length ≤ i * 400 + j * 20 + e := by rw [h]; exact Nat.le_trans (pick_len _ _) I4.len
              omega
            refine ⟨.inl ⟨rfl, _, SqL.of hz'.1⟩, _, rfl, _, rfl, by show 2 ≤ sizeLine; decide, fun q hq => ?_⟩
            refine ⟨b, _, _, rfl, rfl, upd_eq hz'.1 hq, by rw [List.length_map]; exact line1 (by omega), ?_⟩
            refine ⟨_, rfl, ?_⟩
            rw [step, ← List.append_assoc]
            refine pc_step (n := i * 400 + j * 20 + e) (p := (i, j)) rfl (sL _ _ a1) a2 a3 (fun x hx => ⟨(a4 x hx).1, fun _ => (a4 x hx).2.same sL⟩) hb hz' hzs (fun v => ?_) (by omega) I4.len (I4.same.trans sL) hd hq
            rw [a5 v]
            constructor
            · exact .inr
            · rintro (rfl | h)
              · exact (a5 _).mp (List.mem_map.mpr ⟨_, hb, rfl⟩)
              · exact h
          · have hnew := encE_none hv
            have hput : putK (encE es) (kT (cut t' j (j + 1 + e))) (.ref L) = encE (es ++ [(cut t' j (j + 1 + e), L)]) := by
              rw [putK_new _ hv]
              unfold encE
              rw [List.map_append]
              rfl
            rw [hput]
            have hLd : upd (upd H4 L (.lst [])) d (.dK (encE (es ++ [(cut t' j (j + 1 + e), L)]))) L = some (.lst []) := by rw [upd_ne ndL.symm, upd_same]
            have keep : ∀ x o, H4 x = some o → x ≠ d → upd (upd H4 L (.lst [])) d (.dK (encE (es ++ [(cut t' j (j + 1 + e), L)]))) x = some o := fun x o ho hx => by
              rw [upd_ne hx]
              exact sL _ _ ho
            have pick0 : pick ((List.range i).flatMap (rowX ts) ++ (List.range j).flatMap (plX ts i) ++ (List.range e).map fun n => ((i, j), cut t' j (j + 1 + n))) (cut t' j (j + 1 + e)) = [] := by
              refine List.eq_nil_iff_forall_not_mem.mpr fun p hp => hnew ((a5 _).mpr ?_)
              obtain ⟨x, hx, _⟩ := List.mem_map.mp hp
              have := List.mem_filter.mp hx
              exact ⟨x, this.1, by simpa using this.2⟩
            refine ⟨.inl ⟨rfl, _, SqL.of hLd⟩, _, rfl, _, rfl, by show 2 ≤ sizeLine; decide, fun q hq => ?_⟩
            refine ⟨L, _, _, rfl, rfl, upd_eq hLd hq, by decide, ?_⟩
            refine ⟨_, rfl, ?_⟩
            rw [step, ← List.append_assoc]
            refine pc_step (n := i * 400 + j * 20 + e) (a := L) (zs := []) (es := es ++ [(cut t' j (j + 1 + e), L)]) (p := (i, j)) rfl upd_same ?_ ?_ (fun x hx => ?_) (List.mem_append.mpr (.inr (List.mem_singleton.mpr rfl))) ⟨hLd, fun z hz => nomatch hz⟩ pick0.symm (fun v => ?_) (by rw [List.length_append, List.length_singleton]; omega) I4.len (fun x o ho => keep x o (I4.same _ _ ho) (ne_of_none ho hd)) hd hq
            · rw [List.map_append]
              exact List.nodup_append.mpr ⟨a2, by simp, fun x hx y hy => by rw [List.mem_singleton.mp hy]; exact fun z => hnew (by have z : x = cut t' j (j + 1 + e) := z; rw [← z]; exact hx)⟩
            · rw [List.map_append]
              refine List.nodup_append.mpr ⟨a3, by simp, fun x hx y hy => ?_⟩
              rw [List.mem_singleton.mp hy]
              obtain ⟨z, hz, rfl⟩ := List.mem_map.mp hx
              obtain ⟨zs, hz2, _⟩ := (a4 z hz).2
              exact ne_of_none hz2.1 hL
            · rcases List.mem_append.mp hx with hx | hx
              · refine ⟨(a4 x hx).1, fun _ => ?_⟩
                obtain ⟨zs, hz, hzs⟩ := (a4 x hx).2
                exact ⟨zs, ⟨keep _ _ hz.1 (ne_of hz.1 a1 (by intro q; cases q)), fun z hz' => keep _ _ (hz.2 z hz') (ne_of (hz.2 z hz') a1 (by intro q; cases q))⟩, hzs⟩
              · rw [List.mem_singleton.mp hx]
                exact ⟨hL0, fun h => absurd rfl h⟩
            · rw [List.map_append, List.mem_append, a5 v]
              simp only [List.map_cons, List.map_nil, List.mem_singleton]
              exact or_comm
        · rintro σ H4 ⟨v5, rfl, I4⟩
          refine ⟨_, _, rfl, ?_⟩
          have e5 : (List.range (j + 1)).flatMap (plX ts i) = (List.range j).flatMap (plX ts i) ++ (List.range (t'.length - j)).map fun n => ((i, j), cut t' j (j + 1 + n)) := by
            rw [List.range_succ, List.flatMap_append, List.flatMap_singleton]
            unfold plX
            rw [et]
          rw [e5, ← List.append_assoc]
          obtain ⟨es, a1, a2, a3, a4, a5, a6⟩ := I4.ex
          exact ⟨⟨es, a1, a2, a3, a4, a5, by rw [Nat.succ_mul]; omega⟩, I4.same, by have := I4.len; rw [Nat.succ_mul]; omega, hd⟩
      · rintro σ H4 ⟨v4, v5, rfl, I4⟩
        refine ⟨_, _, _, _, rfl, ?_⟩
        have e5 : (List.range (i + 1)).flatMap (rowX ts) = (List.range i).flatMap (rowX ts) ++ (List.range t'.length).flatMap (plX ts i) := by
          rw [List.range_succ, List.flatMap_append, List.flatMap_singleton]
          unfold rowX
          rw [et]
        rw [e5]
        obtain ⟨es, a1, a2, a3, a4, a5, a6⟩ := I4.ex
        have h400 : t'.length * 20 ≤ 400 := by omega
        exact ⟨⟨es, a1, a2, a3, a4, a5, by rw [Nat.succ_mul]; omega⟩, I4.same, by have := I4.len; rw [Nat.succ_mul]; omega, hd⟩
    · rintro σ H1 ⟨v2, v3, v4, v5, rfl, I1⟩
      rw [List.length_map] at I1
      obtain ⟨es, a1, a2, a3, a4, a5, a6⟩ := I1.ex
      have hfew := hg.few
      have hne : ∀ e ∈ es, e.1 ≠ [] := fun e he => ((mem_allX ts e.1).mp ((a5 _).mp (List.mem_map_of_mem he))).1
      refine ⟨_, rfl, k H1 d es I1.same ⟨a1, a2, fun e he => ?_, fun v => (a5 v).trans (mem_allX ts v), by omega⟩⟩
      have := (a4 e he).2
      have e9 := pick_all ts (hne e he)
      unfold allX at e9
      rw [e9] at this
      exact this
end
end Ep
end
section
set_option linter.all false
set_option maxRecDepth 100000
/-! EpL5: the law's grown. -/
namespace Ep
open PySem PySem.W PySem.Calls PyProof.Rows L2 EP EpR
def aw : Option Nat → Wd
  | none => []
  | some c => [c]
theorem aw_one (t : Wd) (m : Nat) : (t.take (m + 1)).drop m = aw t[m]? := by
  rw [List.drop_take, show m + 1 - m = 1 by omega]
  cases h : t[m]? with
  | none =>
    have := List.getElem?_eq_none_iff.mp h
    rw [List.drop_eq_nil_of_le this]
    rfl
  | some c =>
    obtain ⟨h1, h2⟩ := List.getElem?_eq_some_iff.mp h
    rw [List.drop_eq_getElem_cons h1, h2]
    rfl
theorem aw_inj {a b : Option Nat} (h : aw a = aw b) : a = b := by
  cases a <;> cases b <;> simp_all [aw]
/-- sorted(set(xs)) of texts that are all alike -/
theorem one_like {ys : List Str} {xs : List Wd} (rise : ys.Pairwise fun a b => a.cps.toList < b.cps.toList) (mem : ∀ z, z ∈ ys ↔ z ∈ xs.map Ep.S) (hne : xs ≠ []) {c : Wd} (h : ∀ x ∈ xs, x = c) : ys = [Ep.S c] := by
  have h1 : ∀ y ∈ ys, y = Ep.S c := fun y hy => by
    obtain ⟨x, hx, rfl⟩ := List.mem_map.mp ((mem y).mp hy)
    rw [h x hx]
  match ys, rise, h1, mem with
  | [], _, _, mem =>
    cases xs with
    | nil => exact absurd rfl hne
    | cons x r => exact absurd ((mem (Ep.S x)).mpr (List.mem_map_of_mem List.mem_cons_self)) List.not_mem_nil
  | [y], _, h1, _ => rw [h1 y List.mem_cons_self]
  | y :: y2 :: r, rise, h1, _ =>
    have := List.rel_of_pairwise_cons rise (List.mem_cons_self (a := y2))
    rw [h1 y List.mem_cons_self, h1 y2 (List.mem_cons_of_mem _ List.mem_cons_self)] at this
    exact absurd this (wd_irr _)
theorem like_one {y : Str} {xs : List Wd} (mem : ∀ z, z ∈ [y] ↔ z ∈ xs.map Ep.S) : ∃ c, y = Ep.S c ∧ ∀ x ∈ xs, x = c := by
  obtain ⟨c, hc, e⟩ := List.mem_map.mp ((mem y).mp List.mem_cons_self)
  refine ⟨c, e.symm, fun x hx => ?_⟩
  have := (mem (Ep.S x)).mpr (List.mem_map_of_mem hx)
  have h2 := List.mem_singleton.mp this
  rw [← e] at h2
  exact S_inj h2
def spLGrown : Sp := fun vs H Q _ => ∃ (t l : Addr) (ts : List Wd) (z : Wd), vs = [.ref t, .ref l, VS z] ∧ TxAt H t ts ∧ Good ts ∧ PL H l (occ ts z) ∧ z ≠ [] ∧ occ ts z ≠ [] ∧ ∀ H' T g k, Same H H' → H' T = some (WIO g k) → Grown ts z g k → Q (.ref T) H'
section
variable {P : Program} {w : World} {K : PySem.W.Frag} {mg : Str → Option Value} {base : Heap} {CL CM CC : Addr}
abbrev N47 : List Str := ["_law_texts_here", "_law_places_here", "_law_word", "_law_ahead", "_law_turn", "_law_before", "_law_behind", "_law_text_here", "_law_number", "_law_at"]
theorem sc47 : FnScope N47 ["_law_texts_here", "_law_places_here", "_law_word"] (defScope (top 47)) := ⟨rfl, rfl, rfl, by decide +kernel, rfl, by decide +kernel, by decide +kernel⟩
theorem ok_lgrown (T : Txt K mg CL CM CC) (D : Df K mg "_law_grown" (top 47) ["_law_texts_here", "_law_places_here", "_law_word"]) : Cd P w K mg base 1 "_law_grown" spLGrown := by
  refine D.ok sc47 (fun vs H Q E h => ?_) (fun f cdv A outer s H vs Q E hr h => ?_)
  · obtain ⟨t, l, ts, z, rfl, _⟩ := h
    rfl
  · obtain ⟨t, l, ts, z, rfl, ht, hg, ⟨zs, hz, hzs⟩, hne, hocc, k⟩ := h
    have hol : (occ ts z).length ≤ 2000 := Nat.le_trans (List.length_filter_le _ _) hg.all
    have hzl : zs.length = (occ ts z).length := by rw [← hzs, List.length_map]
    have hn1 : ∀ i, (tx ts i).length ≤ (ts.map List.length).sum := fun i => by
      unfold EP.tx
      rw [List.getD_eq_getElem?_getD]
      cases e : ts[i]? with
      | none => exact Nat.zero_le _
      | some t => exact le_sum (List.mem_map_of_mem (List.mem_of_getElem? e))
    have hN := hg.sum
    generalize hNN : (ts.map List.length).sum = NN at hn1 hN
    have txt : ∀ p ∈ occ ts z, ts[p.1]? = some (tx ts p.1) := fun p hp => by
      have := in_few (mem_occ.mp hp).1
      rw [List.getElem?_eq_getElem this, tx_of (List.getElem?_eq_getElem this)]
    obtain ⟨tt, htt, rest⟩ : ∃ tt, PSs (cxOf CX0 P w K mg base N47 "_law_grown" (defScope (top 47)) f cdv A outer s H E).nox ((defBody (top 47)).drop 2) tt ∧
        ∀ (g : Wd) (kk : Nat) (v4 v5 : Option V) (H1 : Hp), Same H H1 → (∀ p ∈ occ ts z, kk ≤ p.2 ∧ g <+: suf ts (back kk p)) → (∀ c, ¬ ∀ p ∈ occ ts z, ah ts (back kk p) = some c) → kk + z.length ≤ g.length →
          tt { nx := fun _ H' => Q .non H', rt := Q } [some (.ref t), some (.ref l), some (VS g), some (.int (kk : Nat)), v4, v5, none, none, none, none] H1 := by
      refine ⟨_, pss_cons (ps_for PassesOwn.never rfl (pi_range1 (by rfl) T.range (pa_cons (pe_callB (cr_sum rfl) (by rfl) T.sum (by decide +kernel) (pa_cons (pe_lc (own := [("_law_text_here", 7)]) (g := gName 7) (tt := tYes) rfl sc47.nd (pi_tup (pv 0)) (blkOk_by (N := N47) (sc := defScope (top 47)) (by decide +kernel))
            (fun _ _ _ _ _ => pg_name (i := 7) sc47.nd rfl (Or.inl rfl)) (fun _ _ _ _ _ => pts_nil) (fun _ _ _ _ _ => pe_lens T.len (pv 7))) pa_nil)) pa_nil)) (pg_name (i := 4) sc47.nd rfl (Or.inl rfl))
          (pss_cons (ps_set (i := 6) sc47.nd rfl (Or.inl rfl) (pe_sortSetS rfl hr.units (by rfl) T.sorted (by rfl) T.set (pe_lc (own := [("_law_number", 8), ("_law_at", 9)]) (g := gTup K 2 (gCons (gName 8) (gCons (gName 9) gNil))) (tt := tYes) rfl sc47.nd (pi_list (pv 1)) (blkOk_by (N := N47) (sc := defScope (top 47)) (by decide +kernel))
            (fun _ _ _ _ _ => pg_tupK (K := K) rfl rfl (pgs_cons (pg_name (i := 8) sc47.nd rfl (Or.inl rfl)) (pgs_cons (pg_name (i := 9) sc47.nd rfl (Or.inl rfl)) pgs_nil))) (fun _ _ _ _ _ => pts_nil)
            (fun _ _ _ _ _ => pe_slice sl_str (px_ixT (K := K) rfl (pv 0) (pv 8) (fun _ _ => rfl)) (po_some (pe_op op_add (pe_op op_sub (pv 9) (pv 3)) (pe_lens T.len (pv 2)))) (po_some (pe_op op_add (pe_op op_add (pe_op op_sub (pv 9) (pv 3)) (pe_lens T.len (pv 2))) pe_int))))))
          (pss_cons (ps_if (PW.pt (pw_or (pt_cmpR op_ne (pe_len T.len (pv 6)) pe_int (nomark _)) (pw_or1 (pt_cmpR op_eq (pe_ix ix_list (pv 6) pe_int (fun _ _ => rfl)) pe_str (nomark _))))) (pss_one ps_break) pss_nil)
          (pss_one (ps_set (i := 2) sc47.nd rfl (Or.inr rfl) (pe_op op_add_str (pv 2) (pe_ix ix_list (pv 6) pe_int (fun _ _ => rfl))))))))
        (pss_one (ps_ret (pe_tup (pa_cons (pv 2) (pa_cons (pv 3) pa_nil))))), ?_⟩
      intro g kk v4 v5 H1 s1 st lf lg
      refine ⟨_, rfl, t, rfl, ⟨_, SqT.of (s1 _ _ ht)⟩, fun L hL => lc_it (walk_tup (xs := ts.map VS)) (fun i H' => Same H1 H' ∧ H' L = some (.lst (((ts.take i).map fun x => (x.length : Int)).map V.int))) ⟨put (Same.refl _) hL, upd_same⟩ (fun i H' _ ⟨s2, _⟩ => SqT.of (s2 _ _ (s1 _ _ ht))) ?_ ?_⟩
      · rintro i x H2 H3 hi ⟨s2, e2⟩ ⟨rfl, hx⟩
        obtain ⟨t', h1, rfl⟩ := at_map hx
        refine ⟨rfl, _, rfl, _, rfl, by rw [S_len]; exact line2 (Nat.le_trans (hg.text (List.mem_of_getElem? h1)) (by decide)), _, e2, ?_, put s2 hL, ?_⟩
        · rw [List.length_map, List.length_map, List.length_take]
          have := hg.few
          exact line1 (by omega)
        · rw [upd_same, List.take_add_one, h1, S_len, List.map_append, List.map_append]
          rfl
      rintro H2 ⟨s2, e2⟩
      rw [List.length_map, List.take_length] at e2
      refine ⟨_, _, rfl, SqL.of e2, _, rfl, ?_, ?_, ?_⟩
      · rw [sum_int, hNN]; omega
      · rw [sum_int, hNN]; omega
      rw [sum_int, hNN, Int.toNat_natCast]
      have s12 := s1.trans s2
      refine for_range (lo := 0) (n := NN) (fun i σ H' => ∃ (g : Wd) (v4 v6 : Option V), σ = [some (.ref t), some (.ref l), some (VS g), some (.int (kk : Nat)), v4, v5, v6, none, none, none] ∧ Same H H' ∧ (∀ p ∈ occ ts z, kk ≤ p.2 ∧ g <+: suf ts (back kk p)) ∧ kk + z.length + i ≤ g.length)
        ⟨g, v4, none, rfl, s12, st, lg⟩ ?_ ?_
      · rintro i σ H3 hi ⟨g, v4, v6, rfl, s3, st, lg⟩
        have hgl : g.length ≤ 2000 := by
          obtain ⟨p, hp⟩ := occ_ne hocc
          exact Nat.le_trans (st p hp).2.length_le (suf_le hg _)
        have hgS : (Ep.S g).length ≤ sizeLine := by rw [S_len]; exact line2 (by omega)
        have hz3 := hz.same s3
        refine ⟨_, rfl, l, rfl, ⟨_, SqL.of hz3.1⟩, fun L hL => lc_it (walk_list (K := K) (xs := zs.map fun z => V.ref z.1)) (fun i H' => Same H3 H' ∧ H' L = some (.lst ((((occ ts z).take i).map fun p => aw (suf ts (back kk p))[g.length]?).map VS))) ⟨put (Same.refl _) hL, upd_same⟩ (fun i H' _ ⟨s4, _⟩ => SqL.of (s4 _ _ hz3.1)) ?_ ?_⟩
        · rintro j y H4 H5 hj ⟨s4, e4⟩ ⟨rfl, hy⟩
          obtain ⟨x, h1, rfl⟩ := at_map hy
          have hmem := List.mem_of_getElem? h1
          have hp : (occ ts z)[j]? = some x.2 := by rw [← hzs, List.getElem?_map, h1]; rfl
          have hpo := List.mem_of_getElem? hp
          have hkp := (st _ hpo).1
          have hj' : j < (occ ts z).length := (List.getElem?_eq_some_iff.mp hp).1
          refine ⟨_, _, rfl, SqT.of (s4 _ _ (hz3.2 x hmem)), rfl, _, _, rfl, _, _, rfl, rfl, rfl, ?_⟩
          refine ⟨_, rfl, _, rfl, t, _, _, _, rfl, rfl, SqT.of (s4 _ _ (s3 _ _ ht)), atI_nat (j := x.2.1) (by rw [List.getElem?_map, txt _ hpo]; rfl), ?_⟩
          refine ⟨_, rfl, _, rfl, _, _, rfl, rfl, _, rfl, _, rfl, hgS, _, _, rfl, rfl, _, rfl, ?_⟩
          refine ⟨_, rfl, _, rfl, _, _, rfl, rfl, _, rfl, _, rfl, hgS, _, _, rfl, rfl, _, _, rfl, rfl, _, rfl, _, rfl, by rw [S_len]; exact line2 (Nat.le_trans (hg.tx _) (by decide)), ?_⟩
          refine ⟨_, e4, ?_, put s4 hL, ?_⟩
          · rw [List.length_map, List.length_map, List.length_take]
            exact line1 (by omega)
          · have ec : cutS (Ep.S (tx ts x.2.1)) (some (((x.2.2 : Nat) : Int) - (kk : Nat) + ((Ep.S g).length : Nat))) (some (((x.2.2 : Nat) : Int) - (kk : Nat) + ((Ep.S g).length : Nat) + 1)) = Ep.S (aw (suf ts (back kk x.2))[g.length]?) := by
              rw [S_len, show ((x.2.2 : Nat) : Int) - (kk : Nat) + (g.length : Nat) = ((x.2.2 - kk + g.length : Nat) : Int) by omega, show ((x.2.2 - kk + g.length : Nat) : Int) + 1 = ((x.2.2 - kk + g.length + 1 : Nat) : Int) by omega, cut_both, aw_one, suf_at]
              rfl
            rw [upd_same, List.take_add_one, hp, List.map_append, List.map_append]
            exact congrArg (fun v => some (HO.lst (_ ++ [V.str v]))) ec
        rintro H4 ⟨s4, e4⟩
        rw [List.length_map, hzl, List.take_length] at e4
        have s34 := s3.trans s4
        refine ⟨L, ((occ ts z).map fun p => aw (suf ts (back kk p))[g.length]?).map Ep.S, rfl, SqL.of (by rw [e4]; simp only [List.map_map]; rfl), by rw [List.length_map, List.length_map]; omega, fun ys p rise mem np => ?_⟩
        have s5 : Same H4 (upd H4 p (.lst (ys.map V.str))) := put (Same.refl _) np
        have hxne : ((occ ts z).map fun p => aw (suf ts (back kk p))[g.length]?) ≠ [] := fun e => hocc (List.map_eq_nil_iff.mp e)
        -- the end, where it doesn't go on
        have done : ys.length ≠ 1 ∨ ys = [Ep.S []] → ∀ c, ¬ ∀ p ∈ occ ts z, (g ++ [c]) <+: suf ts (back kk p) := fun h c hc => by
          have h1 : ys = [Ep.S [c]] := one_like rise mem hxne fun x hx => by
            obtain ⟨p, hp, rfl⟩ := List.mem_map.mp hx
            have h2 : (suf ts (back kk p))[g.length]? = some c := by
              obtain ⟨r, er⟩ := hc p hp
              rw [← er, List.append_assoc, List.getElem?_append_right (Nat.le_refl _), Nat.sub_self]
              rfl
            rw [h2]
            rfl
          rcases h with h | h
          · exact h (by rw [h1]; rfl)
          · rw [h1] at h
            have := S_inj (List.cons.inj h).1
            cases this
        have fin : ∀ (v4 v6 : Option V) (H6 : Hp), Same H H6 → (∀ c, ¬ ∀ p ∈ occ ts z, (g ++ [c]) <+: suf ts (back kk p)) → (tRet (tTup (tCons (tVar 2) (tCons (tVar 3) tNil)))) { nx := fun _ H' => Q .non H', rt := Q } [some (.ref t), some (.ref l), some (VS g), some (.int (kk : Nat)), v4, v5, v6, none, none, none] H6 := fun v4 v6 H6 s6 rt => by
          refine ⟨_, rfl, _, rfl, by show 2 ≤ sizeLine; decide, fun T hT => k _ T g kk (put s6 (s6.free hT)) upd_same ⟨hocc, st, lf, rt, by omega⟩⟩
        refine ⟨_, rfl, _, _, rfl, .inl ⟨_, SqL.of upd_same, rfl⟩, rfl, _, rfl, ?_⟩
        rw [dec_int, List.length_map]
        by_cases h1 : ys.length = 1
        · have e1 : (!(((ys.length : Nat) : Int) == 1)) = false := by rw [h1]; rfl
          rw [e1]
          refine iteF ?_
          obtain ⟨y, rfl⟩ : ∃ y, ys = [y] := List.length_eq_one_iff.mp h1
          obtain ⟨c, rfl, hc⟩ := like_one mem
          refine ⟨_, rfl, p, _, _, _, rfl, rfl, SqL.of upd_same, atI_nat (j := 0) rfl, rfl, _, rfl, ?_⟩
          rw [show V.str "" = VS [] from congrArg V.str lit_empty, VS_dec]
          refine ite2 (fun q => ?_) (fun q => ?_)
          · have q : c = [] := of_decide_eq_true q
            subst q
            exact fin _ _ _ (s34.trans s5) (done (.inr rfl))
          · have q : c ≠ [] := fun e => q (decide_eq_true e)
            obtain ⟨p0, hp0⟩ := occ_ne hocc
            obtain ⟨d, rfl⟩ : ∃ d, c = [d] := by
              have := hc _ (List.mem_map_of_mem hp0)
              cases e : (suf ts (back kk p0))[g.length]? with
              | none => rw [e] at this; exact absurd this.symm q
              | some d => rw [e] at this; exact ⟨d, this.symm⟩
            refine ⟨_, rfl, _, rfl, p, _, _, _, rfl, rfl, SqL.of upd_same, atI_nat (j := 0) rfl, _, _, rfl, rfl, ?_, ?_⟩
            · rw [S_len, S_len]
              exact line2 (by show g.length + 1 ≤ _; omega)
            · refine ⟨g ++ [d], _, _, congrArg (fun v => [_, _, some (V.str v), _, _, _, _, _, _, _]) (S_app g [d]), s34.trans s5, fun p hp => ⟨(st p hp).1, ?_⟩, by rw [List.length_append, List.length_singleton]; omega⟩
              have h2 : aw (suf ts (back kk p))[g.length]? = aw (some d) := hc _ (List.mem_map_of_mem hp)
              have h2 := aw_inj h2
              obtain ⟨r, er⟩ := (st p hp).2
              rw [← er, List.getElem?_append_right (Nat.le_refl _), Nat.sub_self] at h2
              cases r with
              | nil => cases h2
              | cons a r =>
                obtain rfl := Option.some.inj h2
                exact ⟨r, by rw [← er, List.append_assoc]; rfl⟩
        · have e1 : (!(((ys.length : Nat) : Int) == 1)) = true := by
            rw [Bool.not_eq_true', beq_eq_false_iff_ne]
            omega
          rw [e1]
          refine iteT ?_
          exact fin _ _ _ (s34.trans s5) (done (.inl h1))
      · rintro σ H3 ⟨g, v4, v6, rfl, s3, st, lg⟩
        obtain ⟨p, hp⟩ := occ_ne hocc
        have h1 := (st p hp).2.length_le
        rw [suf_len] at h1
        have h2 := hn1 (back kk p).1
        have h3 := List.length_pos_iff.mpr hne
        exact absurd h1 (by omega)
    refine ⟨_, pss_cons (ps_set (i := 3) sc47.nd rfl (Or.inr rfl) pe_int)
      (pss_cons (ps_for PassesOwn.never rfl (pi_range1 (by rfl) T.range (pa_cons (pe_callB (cr_sum rfl) (by rfl) T.sum (by decide +kernel) (pa_cons (pe_lc (own := [("_law_text_here", 7)]) (g := gName 7) (tt := tYes) rfl sc47.nd (pi_tup (pv 0)) (blkOk_by (N := N47) (sc := defScope (top 47)) (by decide +kernel))
            (fun _ _ _ _ _ => pg_name (i := 7) sc47.nd rfl (Or.inl rfl)) (fun _ _ _ _ _ => pts_nil) (fun _ _ _ _ _ => pe_lens T.len (pv 7))) pa_nil)) pa_nil)) (pg_name (i := 4) sc47.nd rfl (Or.inl rfl))
          (pss_cons (ps_set (i := 5) sc47.nd rfl (Or.inl rfl) (pe_sortSetS rfl hr.units (by rfl) T.sorted (by rfl) T.set (pe_lc (own := [("_law_number", 8), ("_law_at", 9)]) (g := gTup K 2 (gCons (gName 8) (gCons (gName 9) gNil))) (tt := tYes) rfl sc47.nd (pi_list (pv 1)) (blkOk_by (N := N47) (sc := defScope (top 47)) (by decide +kernel))
            (fun _ _ _ _ _ => pg_tupK (K := K) rfl rfl (pgs_cons (pg_name (i := 8) sc47.nd rfl (Or.inl rfl)) (pgs_cons (pg_name (i := 9) sc47.nd rfl (Or.inl rfl)) pgs_nil))) (fun _ _ _ _ _ => pts_nil)
            (fun _ _ _ _ _ => pe_ifExp (pt_cmpR op_gt (pv 9) (pv 3) (nomark _)) (pe_slice sl_str (px_ixT (K := K) rfl (pv 0) (pv 8) (fun _ _ => rfl)) (po_some (pe_op op_sub (pe_op op_sub (pv 9) (pv 3)) pe_int)) (po_some (pe_op op_sub (pv 9) (pv 3)))) pe_str))))
          (pss_cons (ps_if (PW.pt (pw_or (pt_cmpR op_ne (pe_len T.len (pv 5)) pe_int (nomark _)) (pw_or1 (pt_cmpR op_eq (pe_ix ix_list (pv 5) pe_int (fun _ _ => rfl)) pe_str (nomark _))))) (pss_one ps_break) pss_nil)
          (pss_one (ps_asg (pe_tup (pa_cons (pe_op op_add_str (pe_ix ix_list (pv 5) pe_int (fun _ _ => rfl)) (pv 2)) (pa_cons (pe_op op_add (pv 3) pe_int) pa_nil))) (pg_tup rfl (pgs_cons (pg_name (i := 2) sc47.nd rfl (Or.inr rfl)) (pgs_cons (pg_name (i := 3) sc47.nd rfl (Or.inr rfl)) pgs_nil))))))))
        htt), ?_⟩
    refine ⟨_, rfl, t, rfl, ⟨_, SqT.of ht⟩, fun L hL => lc_it (walk_tup (xs := ts.map VS)) (fun i H' => Same H H' ∧ H' L = some (.lst (((ts.take i).map fun x => (x.length : Int)).map V.int))) ⟨put (Same.refl _) hL, upd_same⟩ (fun i H' _ ⟨s2, _⟩ => SqT.of (s2 _ _ ht)) ?_ ?_⟩
    · rintro i x H2 H3 hi ⟨s2, e2⟩ ⟨rfl, hx⟩
      obtain ⟨t', h1, rfl⟩ := at_map hx
      refine ⟨rfl, _, rfl, _, rfl, by rw [S_len]; exact line2 (Nat.le_trans (hg.text (List.mem_of_getElem? h1)) (by decide)), _, e2, ?_, put s2 hL, ?_⟩
      · rw [List.length_map, List.length_map, List.length_take]
        have := hg.few
        exact line1 (by omega)
      · rw [upd_same, List.take_add_one, h1, S_len, List.map_append, List.map_append]
        rfl
    rintro H2 ⟨s2, e2⟩
    rw [List.length_map, List.take_length] at e2
    refine ⟨_, _, rfl, SqL.of e2, _, rfl, ?_, ?_, ?_⟩
    · rw [sum_int, hNN]; omega
    · rw [sum_int, hNN]; omega
    rw [sum_int, hNN, Int.toNat_natCast]
    refine for_range (lo := 0) (n := NN) (fun i σ H' => ∃ (g : Wd) (v4 v5 : Option V), σ = [some (.ref t), some (.ref l), some (VS g), some (.int (i : Nat)), v4, v5, none, none, none, none] ∧ Same H H' ∧ (∀ p ∈ occ ts z, i ≤ p.2 ∧ g <+: suf ts (back i p)) ∧ i + z.length ≤ g.length)
      ⟨z, none, none, rfl, s2, fun p hp => ⟨Nat.zero_le _, (mem_occ.mp hp).2⟩, by omega⟩ ?_ ?_
    · rintro kk σ H3 hi ⟨g, v4, v5, rfl, s3, st, lg⟩
      have hgl : g.length ≤ 2000 := by
        obtain ⟨p, hp⟩ := occ_ne hocc
        exact Nat.le_trans (st p hp).2.length_le (suf_le hg _)
      have hz3 := hz.same s3
      refine ⟨_, rfl, l, rfl, ⟨_, SqL.of hz3.1⟩, fun L hL => lc_it (walk_list (K := K) (xs := zs.map fun z => V.ref z.1)) (fun i H' => Same H3 H' ∧ H' L = some (.lst ((((occ ts z).take i).map fun p => aw (ah ts (back kk p))).map VS))) ⟨put (Same.refl _) hL, upd_same⟩ (fun i H' _ ⟨s4, _⟩ => SqL.of (s4 _ _ hz3.1)) ?_ ?_⟩
      · rintro j y H4 H5 hj ⟨s4, e4⟩ ⟨rfl, hy⟩
        obtain ⟨x, h1, rfl⟩ := at_map hy
        have hmem := List.mem_of_getElem? h1
        have hp : (occ ts z)[j]? = some x.2 := by rw [← hzs, List.getElem?_map, h1]; rfl
        have hpo := List.mem_of_getElem? hp
        have hkp := (st _ hpo).1
        have hj' : j < (occ ts z).length := (List.getElem?_eq_some_iff.mp hp).1
        have fin : ∀ v, v = VS (aw (ah ts (back kk x.2))) → ∃ acc, H5 L = some (.lst acc) ∧ acc.length < sizeLine ∧ Same H3 (upd H5 L (.lst (acc ++ [v]))) ∧ (upd H5 L (.lst (acc ++ [v]))) L = some (.lst ((((occ ts z).take (j + 1)).map fun p => aw (ah ts (back kk p))).map VS)) := fun v hv => by
          refine ⟨_, e4, ?_, put s4 hL, ?_⟩
          · rw [List.length_map, List.length_map, List.length_take]
            exact line1 (by omega)
          · rw [upd_same, List.take_add_one, hp, List.map_append, List.map_append, hv]
            rfl
        refine ⟨_, _, rfl, SqT.of (s4 _ _ (hz3.2 x hmem)), rfl, _, _, rfl, _, _, rfl, rfl, rfl, ?_⟩
        refine ⟨_, rfl, _, rfl, _, _, rfl, rfl, _, rfl, ?_⟩
        refine ite2 (fun q => ?_) (fun q => ?_)
        · have q : (kk : Int) < (x.2.2 : Nat) := of_decide_eq_true q
          refine ⟨_, rfl, _, rfl, t, _, _, _, rfl, rfl, SqT.of (s4 _ _ (s3 _ _ ht)), atI_nat (j := x.2.1) (by rw [List.getElem?_map, txt _ hpo]; rfl), ?_⟩
          refine ⟨_, rfl, _, rfl, _, _, rfl, rfl, _, _, rfl, rfl, _, rfl, ?_⟩
          refine ⟨_, rfl, _, rfl, _, _, rfl, rfl, _, rfl, _, rfl, by rw [S_len]; exact line2 (Nat.le_trans (hg.tx _) (by decide)), ?_⟩
          refine fin _ ?_
          have ec : cutS (Ep.S (tx ts x.2.1)) (some (((x.2.2 : Nat) : Int) - (kk : Nat) - 1)) (some (((x.2.2 : Nat) : Int) - (kk : Nat))) = Ep.S (aw (ah ts (back kk x.2))) := by
            rw [show ((x.2.2 : Nat) : Int) - (kk : Nat) - 1 = ((x.2.2 - kk - 1 : Nat) : Int) by omega, show ((x.2.2 : Nat) : Int) - (kk : Nat) = ((x.2.2 - kk - 1 + 1 : Nat) : Int) by omega, cut_both, aw_one]
            unfold ah back
            rw [if_neg (by show ¬ x.2.2 - kk = 0; omega)]
          exact congrArg V.str ec
        · have q : ¬ (kk : Int) < (x.2.2 : Nat) := fun t => q (decide_eq_true t)
          refine fin _ ?_
          unfold ah back
          rw [if_pos (by show x.2.2 - kk = 0; omega)]
          exact congrArg V.str lit_empty
      rintro H4 ⟨s4, e4⟩
      rw [List.length_map, hzl, List.take_length] at e4
      have s34 := s3.trans s4
      refine ⟨L, ((occ ts z).map fun p => aw (ah ts (back kk p))).map Ep.S, rfl, SqL.of (by rw [e4]; simp only [List.map_map]; rfl), by rw [List.length_map, List.length_map]; omega, fun ys p rise mem np => ?_⟩
      have s5 : Same H4 (upd H4 p (.lst (ys.map V.str))) := put (Same.refl _) np
      have hxne : ((occ ts z).map fun p => aw (ah ts (back kk p))) ≠ [] := fun e => hocc (List.map_eq_nil_iff.mp e)
      have done : ys.length ≠ 1 ∨ ys = [Ep.S []] → ∀ c, ¬ ∀ p ∈ occ ts z, ah ts (back kk p) = some c := fun h c hc => by
        have h1 : ys = [Ep.S [c]] := one_like rise mem hxne fun x hx => by
          obtain ⟨p, hp, rfl⟩ := List.mem_map.mp hx
          rw [hc p hp]
          rfl
        rcases h with h | h
        · exact h (by rw [h1]; rfl)
        · rw [h1] at h
          have := S_inj (List.cons.inj h).1
          cases this
      refine ⟨_, rfl, _, _, rfl, .inl ⟨_, SqL.of upd_same, rfl⟩, rfl, _, rfl, ?_⟩
      rw [dec_int, List.length_map]
      by_cases h1 : ys.length = 1
      · have e1 : (!(((ys.length : Nat) : Int) == 1)) = false := by rw [h1]; rfl
        rw [e1]
        refine iteF ?_
        obtain ⟨y, rfl⟩ : ∃ y, ys = [y] := List.length_eq_one_iff.mp h1
        obtain ⟨c, rfl, hc⟩ := like_one mem
        refine ⟨_, rfl, p, _, _, _, rfl, rfl, SqL.of upd_same, atI_nat (j := 0) rfl, rfl, _, rfl, ?_⟩
        rw [show V.str "" = VS [] from congrArg V.str lit_empty, VS_dec]
        refine ite2 (fun q => ?_) (fun q => ?_)
        · have q : c = [] := of_decide_eq_true q
          subst q
          exact rest g kk _ _ _ (s34.trans s5) st (done (.inr rfl)) lg
        · have q : c ≠ [] := fun e => q (decide_eq_true e)
          obtain ⟨p0, hp0⟩ := occ_ne hocc
          obtain ⟨d, rfl⟩ : ∃ d, c = [d] := by
            have := hc _ (List.mem_map_of_mem hp0)
            cases e : ah ts (back kk p0) with
            | none => rw [e] at this; exact absurd this.symm q
            | some d => rw [e] at this; exact ⟨d, this.symm⟩
          refine ⟨_, rfl, p, _, _, _, rfl, rfl, SqL.of upd_same, atI_nat (j := 0) rfl, _, rfl, _, _, rfl, rfl, ?_, ?_⟩
          · rw [S_len, S_len]
            exact line2 (by show 1 + g.length ≤ _; omega)
          · refine ⟨_, rfl, _, _, rfl, rfl, by show 2 ≤ sizeLine; decide, fun u hu => ?_⟩
            refine ⟨u, _, rfl, SqT.of upd_same, rfl, _, _, rfl, _, _, rfl, rfl, ?_⟩
            refine ⟨[d] ++ g, _, _, congrArg (fun v => [_, _, some (V.str v), _, _, _, _, _, _, _]) (S_app [d] g), put (s34.trans s5) ((s34.trans s5).free hu), fun p hp => ?_, by rw [List.length_append, List.length_singleton]; omega⟩
            have h2 : aw (ah ts (back kk p)) = aw (some d) := hc _ (List.mem_map_of_mem hp)
            have h2 := aw_inj h2
            obtain ⟨h3, h4⟩ := ah_some h2
            have h3 : 0 < p.2 - kk := h3
            have h4 : (tx ts p.1)[p.2 - kk - 1]? = some d := h4
            refine ⟨by omega, ?_⟩
            have h5 := suf_cons h4
            rw [show p.2 - kk - 1 + 1 = p.2 - kk by omega] at h5
            show [d] ++ g <+: suf ts (p.1, p.2 - (kk + 1))
            rw [show p.2 - (kk + 1) = p.2 - kk - 1 by omega, h5]
            exact List.cons_prefix_cons.mpr ⟨rfl, (st p hp).2⟩
      · have e1 : (!(((ys.length : Nat) : Int) == 1)) = true := by
          rw [Bool.not_eq_true', beq_eq_false_iff_ne]
          omega
        rw [e1]
        refine iteT ?_
        exact rest g kk _ _ _ (s34.trans s5) st (done (.inl h1)) lg
    · rintro σ H3 ⟨g, v4, v5, rfl, s3, st, lg⟩
      obtain ⟨p, hp⟩ := occ_ne hocc
      have h1 := (st p hp).1
      have h2 := mem_allP.mp (mem_occ.mp hp).1
      have h3 := hn1 p.1
      exact absurd h1 (by omega)
end
end Ep
end
section
set_option linter.all false
set_option maxRecDepth 100000
/-! EpL6: the law's classes: mathematics, data. -/
namespace Ep
open PySem PySem.W PySem.Calls PyProof.Rows L2 EP EpR
/-! ### few longest pieces -/
theorem ord_ex (ts : List Wd) : ∃ ord, IsOrd ts ord := by
  refine ⟨(allP ts).mergeSort fun p q => decide (¬ suf ts q < suf ts p), List.mergeSort_perm _ _, ?_⟩
  have := List.pairwise_mergeSort (le := fun p q => decide (¬ suf ts q < suf ts p)) (fun a b c h1 h2 => by
    have h1 := of_decide_eq_true h1
    have h2 := of_decide_eq_true h2
    exact decide_eq_true (wd_ntr h1 h2)) (fun a b => by
    by_cases h : suf ts b < suf ts a
    · have : ¬ suf ts a < suf ts b := wd_asy h
      simp [this]
    · simp [h]) (allP ts)
  exact this.imp fun {a b} h => of_decide_eq_true h
def comF (ts : List Wd) (ord : List Pl) : Nat → Nat
  | 0 => 0
  | i + 1 => lcp (suf ts (ord.getD i (0, 0))) (suf ts (ord.getD (i + 1) (0, 0)))
theorem com_ex (ts : List Wd) (ord : List Pl) : IsCom ts ord ((List.range ord.length).map (comF ts ord)) := by
  refine ⟨by rw [List.length_map, List.length_range], fun c h => ?_, fun i p q hp hq => ?_⟩
  · obtain ⟨x, hx, rfl⟩ := at_map h
    obtain ⟨h1, h2⟩ := List.getElem?_eq_some_iff.mp hx
    rw [List.getElem_range] at h2
    subst h2
    rfl
  · have hi : i + 1 < ord.length := (List.getElem?_eq_some_iff.mp hq).1
    rw [List.getElem?_map, List.getElem?_range hi]
    show some (lcp (suf ts (ord.getD i (0, 0))) (suf ts (ord.getD (i + 1) (0, 0)))) = _
    rw [List.getD_eq_getElem?_getD, List.getD_eq_getElem?_getD, hp, hq]
    rfl
def candL (ts : List Wd) (ord : List Pl) (i : Nat) : List Wd := suf ts (ord.getD i (0, 0)) :: if 0 < comF ts ord i then [(suf ts (ord.getD i (0, 0))).take (comF ts ord i)] else []
theorem flat_two {α β : Type} (f : α → List β) (h : ∀ a, (f a).length ≤ 2) : ∀ l : List α, (l.flatMap f).length ≤ 2 * l.length
  | [] => Nat.le_refl _
  | a :: l => by
    rw [List.flatMap_cons, List.length_append, List.length_cons]
    have := flat_two f h l
    have := h a
    omega
theorem few_long {ts : List Wd} (h : (ts.map List.length).sum ≤ 20) : ∃ C : List Wd, C.length < 64 ∧ ∀ g, Longest ts g → g ∈ C := by
  obtain ⟨ord, O⟩ := ord_ex ts
  have hC := com_ex ts ord
  have K : IsCand ts ord ((List.range ord.length).map (comF ts ord)) ((List.range ord.length).flatMap (candL ts ord)) := by
    intro v
    rw [List.mem_flatMap]
    constructor
    · rintro ⟨i, hi, hv⟩
      have hi := List.mem_range.mp hi
      have hp : ord[i]? = some (ord.getD i (0, 0)) := by rw [List.getD_eq_getElem?_getD, List.getElem?_eq_getElem hi]; rfl
      have hc : ((List.range ord.length).map (comF ts ord))[i]? = some (comF ts ord i) := by rw [List.getElem?_map, List.getElem?_range hi]; rfl
      refine ⟨i, _, hp, ?_⟩
      unfold candL at hv
      rcases List.mem_cons.mp hv with e | e
      · exact .inl e
      · by_cases h0 : 0 < comF ts ord i
        · rw [if_pos h0] at e
          exact .inr ⟨_, hc, h0, List.mem_singleton.mp e⟩
        · rw [if_neg h0] at e
          cases e
    · rintro ⟨i, p, hp, hv⟩
      have hi : i < ord.length := (List.getElem?_eq_some_iff.mp hp).1
      have hp' : ord.getD i (0, 0) = p := by rw [List.getD_eq_getElem?_getD, hp]; rfl
      refine ⟨i, List.mem_range.mpr hi, ?_⟩
      unfold candL
      rw [hp']
      rcases hv with e | ⟨c, hc, h0, e⟩
      · rw [e]
        exact List.mem_cons_self
      · obtain ⟨x, hx, rfl⟩ := at_map hc
        obtain ⟨h1, h2⟩ := List.getElem?_eq_some_iff.mp hx
        rw [List.getElem_range] at h2
        subst h2
        rw [if_pos h0, e]
        exact List.mem_cons_of_mem _ List.mem_cons_self
  refine ⟨_, ?_, fun g L => (cand_iff O hC K g).mpr ⟨L.ne, L.piece, L.right⟩⟩
  have h1 := flat_two (candL ts ord) (fun i => by
    unfold candL
    by_cases h0 : 0 < comF ts ord i
    · rw [if_pos h0]; exact Nat.le_refl _
    · rw [if_neg h0]; exact Nat.le_succ _) (List.range ord.length)
  have e := O.len
  rw [sum_all] at e
  rw [List.length_range] at h1
  omega
/-! ### dicts by words -/
theorem encE_mem {w : Wd} {a : Addr} : ∀ {es : List (Wd × Addr)}, (es.map Prod.fst).Nodup → (w, a) ∈ es → valV (encE es) (kT w) = some (.ref a)
  | e :: es, nd, h => by
    unfold encE
    rw [List.map_cons] at nd ⊢
    rcases List.mem_cons.mp h with h | h
    · subst h
      exact valV_pos rfl
    · have hn := (List.nodup_cons.mp nd).1
      rw [valV_neg (fun z => hn (by rw [kT_inj _ _ z]; exact List.mem_map.mpr ⟨_, h, rfl⟩))]
      exact encE_mem (List.nodup_cons.mp nd).2 h
theorem encE_put {es : List (Wd × Addr)} {w : Wd} {a : Addr} (h : w ∉ es.map Prod.fst) : putK (encE es) (kT w) (.ref a) = encE (es ++ [(w, a)]) := by
  have : valV (encE es) (kT w) = none := by
    cases e : valV (encE es) (kT w) with
    | none => rfl
    | some v =>
      obtain ⟨b, rfl, hb⟩ := encE_some e
      exact absurd (List.mem_map.mpr ⟨_, hb, rfl⟩) h
  rw [putK_new _ this]
  unfold encE
  rw [List.map_append]
  rfl
theorem encE_key {es : List (Wd × Addr)} {i : Nat} {k : Key} {v : V} (h : (encE es)[i]? = some (k, v)) : ∃ e, es[i]? = some e ∧ k = kT e.1 ∧ v = .ref e.2 := by
  obtain ⟨e, he, h2⟩ := at_map h
  exact ⟨e, he, (Prod.mk.inj h2).1.symm, (Prod.mk.inj h2).2.symm⟩
theorem encE_len (es : List (Wd × Addr)) : (encE es).length = es.length := by unfold encE; rw [List.length_map]
/-- a word, its place, what is told of it -/
abbrev E4 := Wd × Addr × Wd × Nat
def wa (e : E4) : Wd × Addr := (e.1, e.2.1)
theorem wa_fst (es : List E4) : (es.map wa).map Prod.fst = es.map Prod.fst := by rw [List.map_map]; rfl
structure WhAt (H : Hp) (d : Addr) (ts : List Wd) (es : List E4) : Prop where
  at_ : H d = some (.dK (encE (es.map wa)))
  nd : (es.map Prod.fst).Nodup
  tup : ∀ e ∈ es, H e.2.1 = some (WIO e.2.2.1 e.2.2.2)
  gr : ∀ e ∈ es, Grown ts e.1 e.2.2.1 e.2.2.2
  mem : ∀ w, w ∈ es.map Prod.fst ↔ w ≠ [] ∧ occ ts w ≠ []
  len : es.length ≤ 4000
def IKO (i : Int) (k : Nat) : HO := .tup [.int i, .int (k : Nat)]
structure ToAt (H : Hp) (d : Addr) (ts L : List Wd) (es : List E4) : Prop where
  at_ : H d = some (.dK (encE (es.map wa)))
  nd : (es.map Prod.fst).Nodup
  tup : ∀ e ∈ es, H e.2.1 = some (IKO (rk L e.2.2.1) e.2.2.2)
  gr : ∀ e ∈ es, Grown ts e.1 e.2.2.1 e.2.2.2
  mem : ∀ w, w ∈ es.map Prod.fst ↔ w ≠ [] ∧ occ ts w ≠ []
  len : es.length ≤ 4000
theorem PcAt.same {H H' : Hp} {d : Addr} {ts : List Wd} {es : List (Wd × Addr)} (s : Same H H') (h : PcAt H d ts es) : PcAt H' d ts es := ⟨s _ _ h.at_, h.nd, fun e he => (h.pl e he).same s, h.mem, h.len⟩
theorem WhAt.same {H H' : Hp} {d : Addr} {ts : List Wd} {es : List E4} (s : Same H H') (h : WhAt H d ts es) : WhAt H' d ts es := ⟨s _ _ h.at_, h.nd, fun e he => s _ _ (h.tup e he), h.gr, h.mem, h.len⟩
theorem ToAt.same {H H' : Hp} {d : Addr} {ts L : List Wd} {es : List E4} (s : Same H H') (h : ToAt H d ts L es) : ToAt H' d ts L es := ⟨s _ _ h.at_, h.nd, fun e he => s _ _ (h.tup e he), h.gr, h.mem, h.len⟩
theorem ToAt.sh {H H' : Hp} {d : Addr} {ts L : List Wd} {es : List E4} (s : SH H H') (h : ToAt H d ts L es) : ToAt H' d ts L es := ⟨s _ _ h.at_ (hd_dK _), h.nd, fun e he => s _ _ (h.tup e he) (hd_tup _), h.gr, h.mem, h.len⟩
/-- the longest pieces with how many places each has -/
structure DuAt (H : Hp) (d : Addr) (ts L : List Wd) : Prop where
  ex : ∃ zs : List (Addr × Wd), H d = some (.lst (zs.map fun z => V.ref z.1)) ∧ zs.map Prod.snd = L ∧ ∀ z ∈ zs, H z.1 = some (.tup [VS z.2, .int (cnt ts z.2 : Nat)])
theorem DuAt.same {H H' : Hp} {d : Addr} {ts L : List Wd} (s : Same H H') (h : DuAt H d ts L) : DuAt H' d ts L := let ⟨zs, a, b, c⟩ := h.ex; ⟨zs, s _ _ a, b, fun z hz => s _ _ (c z hz)⟩
theorem DuAt.sh {H H' : Hp} {d : Addr} {ts L : List Wd} (s : SH H H') (h : DuAt H d ts L) : DuAt H' d ts L := let ⟨zs, a, b, c⟩ := h.ex; ⟨zs, s _ _ a (hd_refs _ _), b, fun z hz => s _ _ (c z hz) (hd_tup _)⟩
/-- a lock taken away -/
theorem unlock {H H' : Hp} {d : Addr} {f u : HO} (h : H d = some u) (s : Same (upd H d f) H') : Same H (upd H' d u) := fun x o e => by
  by_cases hx : x = d
  · subst hx
    rw [upd_same, ← h]
    exact e
  · rw [upd_ne hx]
    exact s x o (by rw [upd_ne hx]; exact e)
def spCls : Sp := fun vs H Q _ => ∃ (t : Addr) (ts : List Wd), vs = [.ref t] ∧ TxAt H t ts ∧ Good ts ∧ (ts.map List.length).sum ≤ 20 ∧
  ∀ H' T dl td L es, Same H H' → H' T = some (.tup [.ref dl, .ref td]) → IsLong ts L → DuAt H' dl ts L → ToAt H' td ts L es → Q (.ref T) H'
section
variable {X : Cx} {K : PySem.W.Frag} {p pos : Pos} {e : Expr} {ta : TE}
theorem px_lenL (hK : X.K = K) (hm : X.mg "len" = none) (he : PE X e ta) (hg : Gl X "len" := by rfl) (hs : starEach [e] X.env = (false, eval e X.env) :: starEach [] X.env := by rfl) :
    PE X (.Call (.Name "len" p) [e] [] pos) (tCB (fun xs H Q => ∃ p ys, xs = [.ref p] ∧ (SqL K H p ys ∨ SqT K H p ys) ∧ Q (.int ys.length) H) (tCons ta tNil)) := by
  subst hK
  exact pe_callB call_len_seq hg hm PySem.boot_len (pa_cons he pa_nil hs) (by decide) (by decide) hs rfl
end
end Ep
end
section
set_option linter.all false
set_option maxRecDepth 100000
/-! EpL7: the walk of the law's classes. -/
namespace Ep
open PySem PySem.W PySem.Calls PyProof.Rows L2 EP EpR
section
variable {P : Program} {w : World} {K : PySem.W.Frag} {mg : Str → Option Value} {base : Heap} {CL CM CC : Addr}
abbrev N48 : List Str := ["_law_texts_here", "_law_pieces_here", "_law_whole", "_law_word", "_law_longest", "_law_names", "_law_told", "_law_many"]
theorem sc48 : FnScope N48 ["_law_texts_here"] (defScope (top 48)) := ⟨rfl, rfl, rfl, by decide +kernel, rfl, by decide +kernel, by decide +kernel⟩
theorem ok_cls (T : Txt K mg CL CM CC) (D : Df K mg "_law_classes" (top 48) ["_law_texts_here"]) (GP : Cd P w K mg base 1 "_law_pieces" spPcs) (GG : Cd P w K mg base 1 "_law_grown" spLGrown) : Cd P w K mg base 2 "_law_classes" spCls := by
  refine D.ok sc48 (fun vs H Q E h => ?_) (fun f cdv A outer s H vs Q E hr h => ?_)
  · obtain ⟨t, ts, rfl, _⟩ := h
    rfl
  · obtain ⟨t, ts, rfl, ht, hg, h20, k⟩ := h
    have hu := hu_of hr
    -- the return
    obtain ⟨t7, ht7, rest7⟩ : ∃ tt, PSs (cxOf CX0 P w K mg base N48 "_law_classes" (defScope (top 48)) f cdv A outer s H E).nox ((defBody (top 48)).drop 7) tt ∧
        ∀ (d wd nl td : Addr) (L : List Wd) (es : List (Wd × Addr)) (e4 : List E4) (v3 v4 : Option V) (H1 : Hp), Same H H1 → PcAt H1 d ts es → IsLong ts L → H1 nl = some (.lst (L.map VS)) → ToAt H1 td ts L e4 →
          tt { nx := fun _ H' => Q .non H', rt := Q } [some (.ref t), some (.ref d), some (.ref wd), v3, v4, some (.ref nl), some (.ref td), none] H1 := by
      refine ⟨_, pss_one (ps_ret (pe_tup (pa_cons (pe_lc (own := [("_law_word", 3)]) (g := gName 3) (tt := tYes) rfl sc48.nd (pi_list (pv 5)) (blkOk_by (N := N48) (sc := defScope (top 48)) (by decide +kernel))
          (fun _ _ _ _ _ => pg_name (i := 3) sc48.nd rfl (Or.inl rfl)) (fun _ _ _ _ _ => pts_nil) (fun _ _ _ _ _ => pe_tup (pa_cons (pv 3) (pa_cons (px_lenL (K := K) rfl T.len (pe_dget hu (pv 1) (pv 3) (fun _ _ => rfl))) pa_nil)))) (pa_cons (pv 6) pa_nil)))), ?_⟩
      intro d wd nl td L es e4 v3 v4 H1 s1 hp hL hn hto
      have hLl : L.length ≤ 4000 := by
        have h1 : L.length ≤ es.length := by
          have := sub_len hL.nodup fun g hg' => (hp.mem g).mpr (by have := (hL.mem g).mp hg'; exact ⟨this.ne, this.piece⟩)
          rw [List.length_map] at this
          exact this
        have := hp.len
        omega
      refine ⟨_, rfl, nl, rfl, ⟨_, SqL.of hn⟩, fun D hD => lc_it (walk_list (K := K) (xs := L.map VS)) (fun i H' => ∃ zs : List (Addr × Wd), Same H1 H' ∧ H' D = some (.lst (zs.map fun z => V.ref z.1)) ∧ zs.map Prod.snd = L.take i ∧ ∀ z ∈ zs, H' z.1 = some (.tup [VS z.2, .int (cnt ts z.2 : Nat)])) ⟨[], put (Same.refl _) hD, upd_same, rfl, fun z hz => nomatch hz⟩ (fun i H' _ ⟨_, s2, _⟩ => SqL.of (s2 _ _ hn)) ?_ ?_⟩
      · rintro i y H2 H3 hi ⟨zs, s2, e2, l2, a2⟩ ⟨rfl, hy⟩
        obtain ⟨g, hg1, rfl⟩ := at_map hy
        have hgL := List.mem_of_getElem? hg1
        have hlong := (hL.mem g).mp hgL
        have hgk := (hp.mem g).mpr ⟨hlong.ne, hlong.piece⟩
        obtain ⟨⟨g', a⟩, hea, rfl⟩ := List.mem_map.mp hgk
        have hv := encE_mem hp.nd hea
        obtain ⟨ys, hys, eys⟩ := hp.pl _ hea
        have hzl : zs.length ≤ L.length := by have := congrArg List.length l2; rw [List.length_map, List.length_take] at this; omega
        have gd := DGet.k (k := kT g') (s2 _ _ hp.at_)
        rw [hv] at gd
        refine ⟨rfl, _, rfl, _, rfl, _, rfl, d, _, rfl, gd, a, _, rfl, .inl (SqL.of (s2 _ _ hys.1)), by show 2 ≤ sizeLine; decide, fun q hq => ?_⟩
        have e3 : ((ys.map fun z => V.ref z.1).length : Int) = (cnt ts g' : Nat) := by
          rw [List.length_map]
          have := congrArg List.length eys
          rw [List.length_map] at this
          rw [this]
          rfl
        refine ⟨_, upd_eq e2 hq, ?_, zs ++ [(q, g')], put (put s2 (s2.free hq)) hD, ?_, ?_, fun z hz => ?_⟩
        · rw [List.length_map]
          exact line1 (by omega)
        · rw [upd_same, List.map_append]
          rfl
        · rw [List.map_append, l2, List.take_add_one, hg1]
          rfl
        · rcases List.mem_append.mp hz with hz | hz
          · have h1 := a2 z hz
            rw [upd_ne (ne_of h1 e2 (by intro q; cases q))]
            exact upd_eq h1 hq
          · rw [List.mem_singleton.mp hz]
            show upd _ _ _ q = _
            rw [upd_ne (ne_of_none e2 hq).symm, upd_same]
            exact congrArg (fun v => some (HO.tup [VS g', .int v])) e3
      · rintro H2 ⟨zs, s2, e2, l2, a2⟩
        rw [List.length_map, List.take_length] at l2
        refine ⟨_, rfl, by show 2 ≤ sizeLine; decide, fun q hq => ?_⟩
        have s3 : Same H2 (upd H2 q (.tup [.ref D, .ref td])) := put (Same.refl _) hq
        exact k _ q D td L e4 ((s1.trans s2).trans s3) upd_same hL ⟨zs, s3 _ _ e2, l2, fun z hz => s3 _ _ (a2 z hz)⟩ (hto.same (s2.trans s3))
    -- told
    obtain ⟨t5, ht5, rest5⟩ : ∃ tt, PSs (cxOf CX0 P w K mg base N48 "_law_classes" (defScope (top 48)) f cdv A outer s H E).nox ((defBody (top 48)).drop 5) tt ∧
        ∀ (d wd nl : Addr) (L : List Wd) (es : List (Wd × Addr)) (e2 : List E4) (v3 v4 : Option V) (H1 : Hp), Same H H1 → PcAt H1 d ts es → WhAt H1 wd ts e2 → IsLong ts L → H1 nl = some (.lst (L.map VS)) →
          tt { nx := fun _ H' => Q .non H', rt := Q } [some (.ref t), some (.ref d), some (.ref wd), v3, v4, some (.ref nl), none, none] H1 := by
      refine ⟨_, pss_cons (ps_set (i := 6) sc48.nd rfl (Or.inl rfl) pe_dnewK)
        (pss_cons (ps_lock (ps_for PassesOwn.never rfl (pi_keys (pv 2)) (pg_name (i := 3) sc48.nd rfl (Or.inl rfl))
          (pss_one (ps_dput hu (pv 6) (pv 3) (pe_tup (pa_cons (pe_bm PySem.F.plainAttrs_list PySem.F.slot_list_index PySem.F.type_list_index mt_index (pv 5) (pa_cons (pe_ix ix_tup (pe_dget hu (pv 2) (pv 3) (fun _ _ => rfl)) pe_int (fun _ _ => rfl)) pa_nil)) (pa_cons (pe_ix ix_tup (pe_dget hu (pv 2) (pv 3) (fun _ _ => rfl)) pe_int (fun _ _ => rfl)) pa_nil))) rfl))))
        ht7), ?_⟩
      intro d wd nl L es e2 v3 v4 H1 s1 hp hw hL hn td htd
      have nwt : wd ≠ td := ne_of_none hw.at_ htd
      refine ⟨wd, _, upd_eq hw.at_ htd, trivial, fun od => ?_⟩
      have nlw : nl ≠ wd := ne_of hn hw.at_ (by intro q; cases q)
      have h10 : ∀ x o, H1 x = some o → x ≠ wd → (upd H1 wd (.frz od (.dK (encE (e2.map wa))))) x = some o := fun x o e hx => by rw [upd_ne hx]; exact e
      refine ⟨_, rfl, wd, od, rfl, .inl ⟨_, upd_same, for_it walk_keys (fun i σ H' => ∃ v3 e3, σ = [some (.ref t), some (.ref d), some (.ref wd), v3, v4, some (.ref nl), some (.ref td), none] ∧ Same (upd H1 wd (.frz od (.dK (encE (e2.map wa))))) H' ∧ H' td = some (.dK (encE (e3.map wa))) ∧ e3.map Prod.fst = (e2.take i).map Prod.fst ∧ (∀ e ∈ e3, H' e.2.1 = some (IKO (rk L e.2.2.1) e.2.2.2) ∧ Grown ts e.1 e.2.2.1 e.2.2.2))
        ⟨v3, [], rfl, fun x o e => ?_, ?_, rfl, fun e he => nomatch he⟩ (fun i σ H' _ ⟨_, _, _, q, _⟩ => q _ _ upd_same) ?_ ?_⟩⟩
      · by_cases hx : x = wd
        · subst hx
          rw [upd_same] at e
          rw [upd_same]
          exact e
        · rw [upd_ne hx] at e
          rw [upd_ne hx]
          exact upd_eq e htd
      · rw [upd_ne nwt.symm, upd_same]
        rfl
      · rintro i x σ H2 H3 hi ⟨v3, e3, rfl, s2, t2, l2, a2⟩ ⟨rfl, kk, vv, hkv, rfl⟩
        obtain ⟨y, hy, rfl, rfl⟩ := encE_key hkv
        obtain ⟨e, he, rfl⟩ := at_map hy
        have hem := List.mem_of_getElem? he
        have hmw : (e.1, e.2.1) ∈ e2.map wa := List.mem_map.mpr ⟨e, hem, rfl⟩
        have hv := encE_mem (by rw [wa_fst]; exact hw.nd) hmw
        have hgrown := hw.gr e hem
        have hew : e.1 ≠ [] := ((hw.mem e.1).mp (List.mem_map_of_mem hem)).1
        have hgL : e.2.2.1 ∈ L := (hL.mem _).mpr (hgrown.longest hew)
        obtain ⟨r1, r2⟩ := rk_get hgL
        have htup := hw.tup e hem
        have htup2 := s2 _ _ (h10 _ _ htup (ne_of htup hw.at_ (by intro q; cases q)))
        have hfz := s2 _ _ (upd_same (H := H1) (a := wd))
        have gd : DGet H3 wd (kV (kT e.1)) (some (.ref e.2.1)) := .inl ⟨_, kT e.1, .inr ⟨_, hfz⟩, rfl, hv.symm⟩
        have hn2 := s2 _ _ (h10 _ _ hn nlw)
        have he3 : e3.length ≤ 4000 := by
          have h1 := congrArg List.length l2
          rw [List.length_map, List.length_map, List.length_take] at h1
          have := hw.len
          omega
        have ej : ((rk L e.2.2.1).toNat : Int) = rk L e.2.2.1 := Int.toNat_of_nonneg r2
        refine ⟨_, rfl, .inl ⟨rfl, _, SqL.of hn2⟩, _, rfl, _, rfl, wd, _, rfl, gd, e.2.1, _, _, _, rfl, rfl, SqT.of htup2, atI_nat (j := 0) rfl, nl, _, _, (rk L e.2.2.1).toNat, VS e.2.2.1, rfl, rfl, SqL.of hn2, rfl, ?_, ?_, ?_, fun m z' hm hz' => ?_, ?_⟩
        · rw [List.all_eq_true]
          intro v hv
          obtain ⟨_, _, rfl⟩ := List.mem_map.mp hv
          rfl
        · rw [List.getElem?_map, r1]
          rfl
        · show (Ep.S e.2.2.1 == Ep.S e.2.2.1) = true
          simp
        · obtain ⟨g', hg', rfl⟩ := at_map hz'
          show (Ep.S g' == Ep.S e.2.2.1) = false
          rw [beq_eq_false_iff_ne]
          intro q
          have q := S_inj q
          subst q
          obtain ⟨a1, a2⟩ := List.getElem?_eq_some_iff.mp hg'
          obtain ⟨b1, b2⟩ := List.getElem?_eq_some_iff.mp r1
          exact List.pairwise_iff_getElem.mp hL.nodup m _ a1 b1 hm (by rw [a2, b2])
        · rw [ej]
          refine ⟨_, rfl, _, rfl, wd, _, rfl, gd, e.2.1, _, _, _, rfl, rfl, SqT.of htup2, atI_nat (j := 1) rfl, by show 2 ≤ sizeLine; decide, fun q hq => ?_⟩
          refine ⟨_, rfl, _, rfl, td, _, rfl, DPut.k (k := kT e.1) (upd_eq t2 hq) (by rw [encE_len, List.length_map]; exact line1 (by omega)), ?_⟩
          have hnew : e.1 ∉ (e3.map wa).map Prod.fst := by
            rw [wa_fst, l2, List.map_take]
            exact not_taken hw.nd (by rw [List.getElem?_map, he]; rfl)
          rw [encE_put hnew]
          refine ⟨_, e3 ++ [(e.1, q, e.2.2)], rfl, fun x o hx => ?_, ?_, ?_, fun y hy => ?_⟩
          · have h1 := s2 _ _ hx
            have nx : x ≠ td := by
              intro z
              subst z
              rw [upd_ne nwt.symm, htd] at hx
              cases hx
            rw [upd_ne nx]
            exact upd_eq h1 hq
          · rw [upd_same, List.map_append]
            rfl
          · rw [List.map_append, l2, List.take_add_one, he, List.map_append]
            rfl
          · rcases List.mem_append.mp hy with hy | hy
            · obtain ⟨h1, h2⟩ := a2 y hy
              refine ⟨?_, h2⟩
              rw [upd_ne (ne_of h1 t2 (by intro q; cases q))]
              exact upd_eq h1 hq
            · rw [List.mem_singleton.mp hy]
              refine ⟨?_, hgrown⟩
              show upd _ _ _ q = _
              rw [upd_ne (ne_of_none t2 hq).symm, upd_same]
              rfl
      · rintro σ H2 ⟨v3, e3, rfl, s2, t2, l2, a2⟩
        rw [encE_len, List.length_map, List.take_length] at l2
        refine ⟨s2 _ _ upd_same, ?_⟩
        have s3 := unlock hw.at_ s2
        refine rest7 d wd nl td L es e3 _ _ _ (s1.trans s3) (hp.same s3) hL (s3 _ _ hn) ⟨by rw [upd_ne nwt.symm]; exact t2, by rw [l2]; exact hw.nd, fun e he => ?_, fun e he => (a2 e he).2, fun v => by rw [l2]; exact hw.mem v, ?_⟩
        · have h1 := (a2 e he).1
          rw [upd_ne (ne_of h1 (s2 _ _ (upd_same (H := H1) (a := wd))) (by intro q; cases q))]
          exact h1
        · have h1 := congrArg List.length l2
          rw [List.length_map, List.length_map] at h1
          have := hw.len
          omega
    -- longest, names
    obtain ⟨C, hC1, hC2⟩ := few_long h20
    obtain ⟨t3, ht3, rest3⟩ : ∃ tt, PSs (cxOf CX0 P w K mg base N48 "_law_classes" (defScope (top 48)) f cdv A outer s H E).nox ((defBody (top 48)).drop 3) tt ∧
        ∀ (d wd : Addr) (es : List (Wd × Addr)) (e2 : List E4) (v3 : Option V) (H1 : Hp), Same H H1 → PcAt H1 d ts es → WhAt H1 wd ts e2 →
          tt { nx := fun _ H' => Q .non H', rt := Q } [some (.ref t), some (.ref d), some (.ref wd), v3, none, none, none, none] H1 := by
      refine ⟨_, pss_cons (ps_set (i := 4) sc48.nd rfl (Or.inl rfl) (pe_sortSetT rfl hr.units (by rfl) T.sorted (by rfl) T.set (pe_lock (pe_lc (own := [("_law_word", 3)]) (g := gName 3) (tt := tYes) rfl sc48.nd (pi_keys (pv 2)) (blkOk_by (N := N48) (sc := defScope (top 48)) (by decide +kernel))
          (fun _ _ _ _ _ => pg_name (i := 3) sc48.nd rfl (Or.inl rfl)) (fun _ _ _ _ _ => pts_nil) (fun _ _ _ _ _ => pe_tup (pa_cons (pe_lens T.len (px_ixT (K := K) rfl (pe_dget hu (pv 2) (pv 3) (fun _ _ => rfl)) pe_int (fun _ _ => rfl))) (pa_cons (px_ixT (K := K) rfl (pe_dget hu (pv 2) (pv 3) (fun _ _ => rfl)) pe_int (fun _ _ => rfl)) pa_nil)))))))
        (pss_cons (ps_setLc (i := 5) (own := [("_law_many", 7), ("_law_word", 3)]) (g := gTup K 2 (gCons (gName 7) (gCons (gName 3) gNil))) (tt := tYes) rfl sc48.nd rfl rfl (sw_true rfl rfl rfl (by decide +kernel)) (pi_list (pv 4)) (blkOk_by (N := N48) (sc := defScope (top 48)) (by decide +kernel))
          (fun _ _ _ _ _ => pg_tupK (K := K) rfl rfl (pgs_cons (pg_name (i := 7) sc48.nd rfl (Or.inl rfl)) (pgs_cons (pg_name (i := 3) sc48.nd rfl (Or.inl rfl)) pgs_nil))) (fun _ _ _ _ _ => pts_nil) (fun _ _ _ _ _ => pv 3))
        ht5), ?_⟩
      intro d wd es e2 v3 H1 s1 hp hw
      have h10 : ∀ od x o, H1 x = some o → x ≠ wd → (upd H1 wd (.frz od (.dK (encE (e2.map wa))))) x = some o := fun od x o e hx => by rw [upd_ne hx]; exact e
      refine ⟨wd, _, hw.at_, trivial, fun od => ?_⟩
      refine ⟨_, rfl, wd, od, rfl, .inl ⟨_, upd_same, fun L hL => lc_it walk_keys (fun i H' => ∃ bs : List (Addr × Int × Str), Same (upd H1 wd (.frz od (.dK (encE (e2.map wa))))) H' ∧ H' L = some (.lst (bs.map fun b => V.ref b.1)) ∧ (∀ b ∈ bs, H' b.1 = some (.tup [.int b.2.1, .str b.2.2])) ∧ bs.map Prod.snd = (e2.take i).map fun e => ((e.2.2.1.length : Int), Ep.S e.2.2.1))
        ⟨[], put (Same.refl _) hL, upd_same, (fun b hb => nomatch hb), rfl⟩ (fun i H' _ ⟨_, q, _⟩ => q _ _ upd_same) ?_ ?_⟩⟩
      · rintro i x H2 H3 hi ⟨bs, s2, l2, a2, m2⟩ ⟨rfl, kk, vv, hkv, rfl⟩
        obtain ⟨y, hy, rfl, rfl⟩ := encE_key hkv
        obtain ⟨e, he, rfl⟩ := at_map hy
        have hem := List.mem_of_getElem? he
        have hmw : (e.1, e.2.1) ∈ e2.map wa := List.mem_map.mpr ⟨e, hem, rfl⟩
        have hv := encE_mem (by rw [wa_fst]; exact hw.nd) hmw
        have htup := hw.tup e hem
        have htup2 := s2 _ _ (h10 od _ _ htup (ne_of htup hw.at_ (by intro q; cases q)))
        have hfz := s2 _ _ (upd_same (H := H1) (a := wd))
        have gd : DGet H3 wd (kV (kT e.1)) (some (.ref e.2.1)) := .inl ⟨_, kT e.1, .inr ⟨_, hfz⟩, rfl, hv.symm⟩
        have hgl : e.2.2.1.length ≤ 2000 := by
          have hew : e.1 ≠ [] := ((hw.mem e.1).mp (List.mem_map_of_mem hem)).1
          exact long_len hg ((hw.gr e hem).longest hew)
        have hbl : bs.length ≤ e2.length := by
          have h1 := congrArg List.length m2
          rw [List.length_map, List.length_map, List.length_take] at h1
          omega
        have hwl := hw.len
        refine ⟨rfl, _, rfl, _, rfl, wd, _, rfl, gd, e.2.1, _, _, _, rfl, rfl, SqT.of htup2, atI_nat (j := 0) rfl, _, rfl, by rw [S_len]; exact line2 (by omega), ?_⟩
        refine ⟨_, rfl, _, rfl, wd, _, rfl, gd, e.2.1, _, _, _, rfl, rfl, SqT.of htup2, atI_nat (j := 0) rfl, by show 2 ≤ sizeLine; decide, fun q hq => ?_⟩
        refine ⟨_, upd_eq l2 hq, ?_, bs ++ [(q, ((e.2.2.1.length : Int), Ep.S e.2.2.1))], put (put s2 (s2.free hq)) hL, ?_, fun b hb => ?_, ?_⟩
        · rw [List.length_map]
          exact line1 (by omega)
        · rw [upd_same, List.map_append]
          rfl
        · rcases List.mem_append.mp hb with hb | hb
          · have h1 := a2 b hb
            rw [upd_ne (ne_of h1 l2 (by intro q; cases q))]
            exact upd_eq h1 hq
          · rw [List.mem_singleton.mp hb]
            show upd _ _ _ q = _
            rw [upd_ne (ne_of_none l2 hq).symm, upd_same, S_len]
        · rw [List.map_append, m2, List.take_add_one, he, List.map_append]
          rfl
      rintro H2 ⟨bs, s2, l2, a2, m2⟩
      rw [encE_len, List.length_map, List.take_length] at m2
      refine ⟨s2 _ _ upd_same, ?_⟩
      have s3 := unlock hw.at_ s2
      have nLw : L ≠ wd := ne_of l2 (s2 _ _ (upd_same (H := H1) (a := wd))) (by intro q; cases q)
      have hbk : ∀ b ∈ bs, ∃ e ∈ e2, b.2 = ((e.2.2.1.length : Int), Ep.S e.2.2.1) := fun b hb => by
        have : b.2 ∈ bs.map Prod.snd := List.mem_map_of_mem hb
        rw [m2] at this
        obtain ⟨e, he, h2⟩ := List.mem_map.mp this
        exact ⟨e, he, h2.symm⟩
      have hlg : ∀ e ∈ e2, Longest ts e.2.2.1 := fun e he => (hw.gr e he).longest ((hw.mem e.1).mp (List.mem_map_of_mem he)).1
      refine ⟨L, bs, C.map fun g => ((g.length : Int), Ep.S g), rfl, SqL.of (by rw [upd_ne nLw]; exact l2), fun b hb => SqT.of ?_, by rw [List.length_map]; exact hC1, fun b hb => ?_, fun zs p hzs hmz srt np => ?_⟩
      · have h1 := a2 b hb
        rw [upd_ne (ne_of h1 (s2 _ _ (upd_same (H := H1) (a := wd))) (by intro q; cases q))]
        exact h1
      · obtain ⟨e, he, h2⟩ := hbk b hb
        rw [h2]
        exact List.mem_map.mpr ⟨_, hC2 _ (hlg e he), rfl⟩
      have s4 : Same (upd H2 wd (.dK (encE (e2.map wa)))) (upd (upd H2 wd (.dK (encE (e2.map wa)))) p (.lst (zs.map fun z => V.ref z.1))) := put (Same.refl _) np
      have hzt : ∀ z ∈ zs, (upd (upd H2 wd (.dK (encE (e2.map wa)))) p (.lst (zs.map fun z => V.ref z.1))) z.1 = some (.tup [.int z.2.1, .str z.2.2]) := fun z hz => by
        have h1 := a2 z (hzs z hz)
        refine s4 _ _ ?_
        rw [upd_ne (ne_of h1 (s2 _ _ (upd_same (H := H1) (a := wd))) (by intro q; cases q))]
        exact h1
      -- the longest pieces
      have hLg : IsLong ts (zs.map fun z => z.2.2.cps.toList) := by
        refine ⟨?_, fun g => ?_⟩
        · rw [List.pairwise_map]
          refine srt.imp_of_mem fun {y z} hy hz h => ?_
          obtain ⟨e1, _, h1⟩ := hbk y (hzs y hy)
          obtain ⟨e2, _, h2⟩ := hbk z (hzs z hz)
          rw [h1, h2] at h ⊢
          show e1.2.2.1.length < e2.2.2.1.length ∨ (e1.2.2.1.length = e2.2.2.1.length ∧ e1.2.2.1 < e2.2.2.1)
          have h : ((e1.2.2.1.length : Int) < (e2.2.2.1.length : Int)) ∨ ((e1.2.2.1.length : Int) = (e2.2.2.1.length : Int) ∧ e1.2.2.1 < e2.2.2.1) := h
          rcases h with h | ⟨h, h'⟩
          · exact .inl (by omega)
          · exact .inr ⟨by omega, h'⟩
        · rw [List.mem_map]
          constructor
          · rintro ⟨z, hz, rfl⟩
            obtain ⟨e, he, h2⟩ := hbk z (hzs z hz)
            rw [h2]
            exact hlg e he
          · intro hgL
            have hk := (hw.mem g).mpr ⟨hgL.ne, hgL.piece⟩
            obtain ⟨e, he, rfl⟩ := List.mem_map.mp hk
            have hone := ((hw.gr e he).one hgL.ne hgL.self).1
            have hb : ((e.2.2.1.length : Int), Ep.S e.2.2.1) ∈ bs.map Prod.snd := by
              rw [m2]
              exact List.mem_map.mpr ⟨e, he, rfl⟩
            obtain ⟨z, hz, hz2⟩ := List.mem_map.mp ((hmz _).mpr hb)
            have hz2 : z.2 = ((e.2.2.1.length : Int), Ep.S e.2.2.1) := hz2
            refine ⟨z, hz, ?_⟩
            rw [hz2]
            exact hone
      have hzl : zs.length ≤ 4000 := by
        have h1 : (zs.map fun z => z.2.2.cps.toList).length ≤ e2.length := by
          have := sub_len hLg.nodup fun g hg' => (hw.mem g).mpr (by have := (hLg.mem g).mp hg'; exact ⟨this.ne, this.piece⟩)
          rw [List.length_map (as := e2)] at this
          exact this
        rw [List.length_map] at h1
        have := hw.len
        omega
      refine ⟨_, rfl, p, rfl, ⟨_, SqL.of upd_same⟩, fun nl hnl => lc_it (walk_list (K := K) (xs := zs.map fun z => V.ref z.1)) (fun i H' => Same (upd (upd H2 wd (.dK (encE (e2.map wa)))) p (.lst (zs.map fun z => V.ref z.1))) H' ∧ H' nl = some (.lst (((zs.take i).map fun z => z.2.2.cps.toList).map VS))) ⟨put (Same.refl _) hnl, upd_same⟩ (fun i H' _ ⟨q, _⟩ => SqL.of (q _ _ upd_same)) ?_ ?_⟩
      · rintro i x H5 H6 hi ⟨s5, e5⟩ ⟨rfl, hx⟩
        obtain ⟨z, hz, rfl⟩ := at_map hx
        refine ⟨_, _, rfl, SqT.of (s5 _ _ (hzt z (List.mem_of_getElem? hz))), rfl, _, _, rfl, _, _, rfl, rfl, rfl, ?_⟩
        refine ⟨_, rfl, _, e5, ?_, put s5 hnl, ?_⟩
        · rw [List.length_map, List.length_map, List.length_take]
          exact line1 (by omega)
        · rw [upd_same, List.take_add_one, hz, List.map_append, List.map_append]
          exact congrArg (fun v => some (HO.lst (_ ++ [V.str v]))) (S_cps z.2.2).symm
      · rintro H5 ⟨s5, e5⟩
        rw [List.length_map, List.take_length] at e5
        have s35 := s3.trans (s4.trans s5)
        exact rest5 d wd nl _ es e2 _ _ H5 (s1.trans s35) (hp.same s35) (hw.same s35) hLg e5
    -- pieces, whole
    refine ⟨_, pss_cons (ps_set (i := 1) sc48.nd rfl (Or.inr rfl) (pe_cd GP hr (by decide) (by rfl) (pa_cons (pv 0) pa_nil)))
      (pss_cons (ps_set (i := 2) sc48.nd rfl (Or.inr rfl) pe_dnewK)
      (pss_cons (ps_lock (ps_for PassesOwn.never rfl (pi_keys (pv 1)) (pg_name (i := 3) sc48.nd rfl (Or.inl rfl))
          (pss_one (ps_dput hu (pv 2) (pv 3) (pe_cd GG hr (by decide) (by rfl) (pa_cons (pv 0) (pa_cons (pe_dget hu (pv 1) (pv 3) (fun _ _ => rfl)) (pa_cons (pv 3) pa_nil)))) rfl))))
      ht3)), ?_⟩
    refine ⟨_, rfl, t, ts, rfl, ht, hg, h20, fun H1 d es s1 hp => ?_⟩
    intro wd hwd
    have ndw : d ≠ wd := ne_of_none hp.at_ hwd
    refine ⟨d, _, upd_eq hp.at_ hwd, trivial, fun od => ?_⟩
    have h10 : ∀ x o, H1 x = some o → x ≠ d → (upd H1 d (.frz od (.dK (encE es)))) x = some o := fun x o e hx => by rw [upd_ne hx]; exact e
    refine ⟨_, rfl, d, od, rfl, .inl ⟨_, upd_same, for_it walk_keys (fun i σ H' => ∃ v3 e2, σ = [some (.ref t), some (.ref d), some (.ref wd), v3, none, none, none, none] ∧ Same (upd H1 d (.frz od (.dK (encE es)))) H' ∧ H' wd = some (.dK (encE (e2.map wa))) ∧ e2.map Prod.fst = (es.take i).map Prod.fst ∧ (∀ e ∈ e2, H' e.2.1 = some (WIO e.2.2.1 e.2.2.2) ∧ Grown ts e.1 e.2.2.1 e.2.2.2))
        ⟨none, [], rfl, fun x o e => ?_, ?_, rfl, fun e he => nomatch he⟩ (fun i σ H' _ ⟨_, _, _, q, _⟩ => q _ _ upd_same) ?_ ?_⟩⟩
    · by_cases hx : x = d
      · subst hx
        rw [upd_same] at e
        rw [upd_same]
        exact e
      · rw [upd_ne hx] at e
        rw [upd_ne hx]
        exact upd_eq e hwd
    · rw [upd_ne ndw.symm, upd_same]
      rfl
    · rintro i x σ H2 H3 hi ⟨v3, e2, rfl, s2, w2, l2, a2⟩ ⟨rfl, kk, vv, hkv, rfl⟩
      obtain ⟨e, he, rfl, rfl⟩ := encE_key hkv
      have hem := List.mem_of_getElem? he
      have hv := encE_mem hp.nd hem
      have hfz := s2 _ _ (upd_same (H := H1) (a := d))
      have gd : DGet H3 d (kV (kT e.1)) (some (.ref e.2)) := .inl ⟨_, kT e.1, .inr ⟨_, hfz⟩, rfl, hv.symm⟩
      have hkey := (hp.mem e.1).mp (List.mem_map_of_mem hem)
      have ht1 : H1 t = some (.tup (ts.map VS)) := s1 _ _ ht
      have ht3' : H3 t = some (.tup (ts.map VS)) := s2 _ _ (h10 _ _ ht1 (ne_of ht1 hp.at_ (by intro q; cases q)))
      have hpl : PL H3 e.2 (occ ts e.1) := by
        obtain ⟨zs, hz, ez⟩ := hp.pl e hem
        exact ⟨zs, ⟨s2 _ _ (h10 _ _ hz.1 (ne_of hz.1 hp.at_ (by intro q; cases q))), fun z hz' => s2 _ _ (h10 _ _ (hz.2 z hz') (ne_of (hz.2 z hz') hp.at_ (by intro q; cases q)))⟩, ez⟩
      have he2 : e2.length ≤ 4000 := by
        have h1 := congrArg List.length l2
        rw [List.length_map, List.length_map, List.length_take] at h1
        have := hp.len
        omega
      refine ⟨_, rfl, _, rfl, _, rfl, d, _, rfl, gd, _, rfl, t, e.2, ts, e.1, rfl, ht3', hg, hpl, hkey.1, hkey.2, fun H4 q g kk s4 e4 G => ?_⟩
      have hnew : e.1 ∉ (e2.map wa).map Prod.fst := by
        rw [wa_fst, l2, List.map_take]
        exact not_taken hp.nd (by rw [List.getElem?_map, he]; rfl)
      refine ⟨_, rfl, _, rfl, wd, _, rfl, DPut.k (k := kT e.1) (s4 _ _ w2) (by rw [encE_len, List.length_map]; exact line1 (by omega)), ?_⟩
      rw [encE_put hnew]
      refine ⟨_, e2 ++ [(e.1, q, (g, kk))], rfl, fun x o hx => ?_, ?_, ?_, fun y hy => ?_⟩
      · have h1 := s4 _ _ (s2 _ _ hx)
        have nx : x ≠ wd := by
          intro z
          subst z
          rw [upd_ne ndw.symm, hwd] at hx
          cases hx
        rw [upd_ne nx]
        exact h1
      · rw [upd_same, List.map_append]
        rfl
      · rw [List.map_append, l2, List.take_add_one, he, List.map_append]
        rfl
      · rcases List.mem_append.mp hy with hy | hy
        · obtain ⟨h1, h2⟩ := a2 y hy
          refine ⟨?_, h2⟩
          rw [upd_ne (ne_of h1 w2 (by intro q; cases q))]
          exact s4 _ _ h1
        · rw [List.mem_singleton.mp hy]
          refine ⟨?_, G⟩
          show upd _ _ _ q = _
          rw [upd_ne (ne_of e4 (s4 _ _ w2) (by intro q; cases q))]
          exact e4
    · rintro σ H2 ⟨v3, e2, rfl, s2, w2, l2, a2⟩
      rw [encE_len, List.take_length] at l2
      refine ⟨s2 _ _ upd_same, ?_⟩
      have s3 := unlock hp.at_ s2
      refine rest3 d wd es e2 _ _ (s1.trans s3) (hp.same s3) ⟨by rw [upd_ne ndw.symm]; exact w2, by rw [l2]; exact hp.nd, fun e he => ?_, fun e he => (a2 e he).2, fun v => by rw [l2]; exact hp.mem v, ?_⟩
      · have h1 := (a2 e he).1
        rw [upd_ne (ne_of h1 (s2 _ _ (upd_same (H := H1) (a := d))) (by intro q; cases q))]
        exact h1
      · have h1 := congrArg List.length l2
        rw [List.length_map, List.length_map] at h1
        have := hp.len
        omega
end
end Ep
end
section
set_option linter.all false
set_option maxRecDepth 100000
/-! EpL8: the law's equality, least parts. -/
namespace Ep
open PySem PySem.W PySem.Calls PyProof.Rows L2 EP EpR
/-- a number or a text -/
inductive Atom : V → Prop
  | int (i : Int) : Atom (.int i)
  | str (z : Wd) : Atom (VS z)
def spIsA : Sp := fun vs H Q _ => ∃ v : V, vs = [v, v] ∧ Atom v ∧ ∀ H', Same H H' → Q (.bl true) H'
def spIsB : Sp := fun vs H Q _ => ∃ (a b : Addr) (i j : Int), vs = [.ref a, .ref b] ∧ H a = some (.tup [.int i, .int j]) ∧ H b = some (.tup [.int i, .int j]) ∧ ∀ H', Same H H' → Q (.bl true) H'
def spIsC : Sp := fun vs H Q _ => ∃ (a b : Addr) (ps : List Pl), vs = [.ref a, .ref b] ∧ PL H a ps ∧ PL H b ps ∧ ps.length ≤ 4000 ∧ ∀ H', Same H H' → Q (.bl true) H'
theorem walk_zipT {K : PySem.W.Frag} {a b : Addr} {xs ys : List V} {n : Nat} (hn : n = min xs.length ys.length) : Walk (RZ.ItzT K a b) n (fun H => SqT K H a xs ∧ SqT K H b ys) (YPair (fun i => xs[i]?) (fun i => ys[i]?)) := by
  subst hn
  refine ⟨fun i _ hi q => ?_, fun _ q => ⟨xs, ys, q.1, q.2, by omega⟩, fun i H v H' _ q y => ?_⟩
  · have h1 : i < xs.length := by omega
    have h2 : i < ys.length := by omega
    exact ⟨xs, ys, xs[i], ys[i], q.1, q.2, by simp [h1], by simp [h2]⟩
  · obtain ⟨T, x, z, h1, h2, h3, h4, h5⟩ := y
    exact ⟨T, x, z, h1, h2, h3, h4 xs q.1, h5 ys q.2⟩
theorem all_rep (n : Nat) : (List.replicate n true).all id = true := by simp
section
variable {P : Program} {w : World} {K : PySem.W.Frag} {mg : Str → Option Value} {base : Heap} {CL CM CC : Addr}
abbrev N49 : List Str := ["_law_told", "_law_due", "_law_one", "_law_two"]
theorem sc49 : FnScope N49 ["_law_told", "_law_due"] (defScope (top 49)) := ⟨rfl, rfl, rfl, by decide +kernel, rfl, by decide +kernel, by decide +kernel⟩
theorem kTL {t : Value} {r1 r2 r : Bool} (h1 : PySem.W.kitOne K t (.type "tuple") = some r1) (h2 : PySem.W.kitOne K t (.type "list") = some r2) (h : (r1 || r2) = r) : PySem.W.kitAny K t [.type "tuple", .type "list"] = some r := by
  subst h
  refine kitAny_cons h1 (fun e => ?_) (fun e => by rw [e]; rfl)
  rw [e]
  refine kitAny_cons h2 (fun e2 => ?_) (fun e2 => by rw [e2]; rfl)
  rw [e2]
  exact kitAny_nil
theorem ok_isA (T : Txt K mg CL CM CC) (D : Df K mg "_law_is" (top 49) ["_law_told", "_law_due"]) : Cd P w K mg base 1 "_law_is" spIsA := by
  refine D.ok sc49 (fun vs H Q E h => ?_) (fun f cdv A outer s H vs Q E hr h => ?_)
  · obtain ⟨v, rfl, _⟩ := h
    rfl
  · obtain ⟨v, rfl, ha, k⟩ := h
    refine ⟨_, pss_cons (ps_if (pt_val (pe_callB call_isiT (by rfl) T.isinstance (by decide +kernel) (pa_cons (pv 1) (pa_cons (pe_tup (pa_cons (pe_bltn (v := .ty "tuple") (by rfl) T.tuple (by decide +kernel) rfl) (pa_cons (pe_bltn (v := .ty "list") (by rfl) T.list (by decide +kernel) rfl) pa_nil))) pa_nil))))
        (pss_cons ps_never (pss_one ps_never)) pss_nil)
      (pss_one (ps_ret (pe_and (pe_cmpR op_eq (pe_callB call_isi (by rfl) T.isinstance (by decide +kernel) (pa_cons (pv 0) (pa_cons (pe_bltn (v := .ty "bool") (by rfl) T.bool (by decide +kernel) rfl) pa_nil))) (pe_callB call_isi (by rfl) T.isinstance (by decide +kernel) (pa_cons (pv 1) (pa_cons (pe_bltn (v := .ty "bool") (by rfl) T.bool (by decide +kernel) rfl) pa_nil))) (nomark _))
        (pe_one (pe_cmpR op_eq (pv 0) (pv 1) (nomark _)))))), ?_⟩
    refine ⟨_, rfl, by show 2 ≤ sizeLine; decide, fun p hp => ?_⟩
    have s1 : Same H (upd H p (.tup [.ty "tuple", .ty "list"])) := put (Same.refl H) hp
    cases ha with
    | int i =>
      refine ⟨_, p, _, _, [.type "tuple", .type "list"], false, rfl, upd_same, .cons (.ty _) (.cons (.ty _) .nil), .base (.int i), kTL (kit_ty (r := false) (by decide +kernel)) (kit_ty (r := false) (by decide +kernel)) rfl, _, rfl, iteF ?_⟩
      refine ⟨_, rfl, _, _, _, _, false, rfl, .ty "bool", .base (.int i), kit_ty (by decide +kernel), _, rfl, _, _, _, _, false, rfl, .ty "bool", .base (.int i), kit_ty (by decide +kernel), rfl, true, rfl, iteT ?_⟩
      refine ⟨_, rfl, _, rfl, rfl, ?_⟩
      show Q (.bl (decide (V.int i = V.int i))) _
      rw [decide_eq_true rfl]
      exact k _ s1
    | str z =>
      refine ⟨_, p, _, _, [.type "tuple", .type "list"], false, rfl, upd_same, .cons (.ty _) (.cons (.ty _) .nil), .base (.str _), kTL (kit_ty (r := false) (by decide +kernel)) (kit_ty (r := false) (by decide +kernel)) rfl, _, rfl, iteF ?_⟩
      refine ⟨_, rfl, _, _, _, _, false, rfl, .ty "bool", .base (.str _), kit_ty (by decide +kernel), _, rfl, _, _, _, _, false, rfl, .ty "bool", .base (.str _), kit_ty (by decide +kernel), rfl, true, rfl, iteT ?_⟩
      refine ⟨_, rfl, _, rfl, rfl, ?_⟩
      show Q (.bl (decide (VS z = VS z))) _
      rw [decide_eq_true rfl]
      exact k _ s1
def spIsSeq (sub : Sp) : Sp := fun vs H Q _ => ∃ (a b : Addr) (xs ys : List V), vs = [.ref a, .ref b] ∧ ((H a = some (.tup xs) ∧ H b = some (.tup ys)) ∨ (H a = some (.lst xs) ∧ H b = some (.lst ys))) ∧ xs.length = ys.length ∧ xs.length ≤ 4000 ∧
  (∀ H' (i : Nat) x y Q', Same H H' → xs[i]? = some x → ys[i]? = some y → (∀ H'', Same H' H'' → Q' (.bl true) H'') → sub [x, y] H' Q' E0) ∧ ∀ H', Same H H' → Q (.bl true) H'
theorem ok_isSeq {n : Nat} {subP : Sp} (T : Txt K mg CL CM CC) (D : Df K mg "_law_is" (top 49) ["_law_told", "_law_due"]) (GA : Cd P w K mg base n "_law_is" subP) : Cd P w K mg base (n + 1) "_law_is" (spIsSeq subP) := by
  refine D.ok sc49 (fun vs H Q E h => ?_) (fun f cdv A outer s H vs Q E hr h => ?_)
  · obtain ⟨a, b, xs, ys, rfl, _⟩ := h
    rfl
  · obtain ⟨a, b, xs, ys, rfl, hab, hlen, hmax, sub, k⟩ := h
    refine ⟨_, pss_cons (ps_if (pt_val (pe_callB call_isiT (by rfl) T.isinstance (by decide +kernel) (pa_cons (pv 1) (pa_cons (pe_tup (pa_cons (pe_bltn (v := .ty "tuple") (by rfl) T.tuple (by decide +kernel) rfl) (pa_cons (pe_bltn (v := .ty "list") (by rfl) T.list (by decide +kernel) rfl) pa_nil))) pa_nil))))
        (pss_cons (ps_if (PW.pt (pw_or (pt_cmpR op_ne (pe_callB call_isi (by rfl) T.isinstance (by decide +kernel) (pa_cons (pv 0) (pa_cons (pe_bltn (v := .ty "tuple") (by rfl) T.tuple (by decide +kernel) rfl) pa_nil))) (pe_callB call_isi (by rfl) T.isinstance (by decide +kernel) (pa_cons (pv 1) (pa_cons (pe_bltn (v := .ty "tuple") (by rfl) T.tuple (by decide +kernel) rfl) pa_nil))) (nomark _))
              (pw_or1 (pt_not (pt_val (pe_callB call_isiT (by rfl) T.isinstance (by decide +kernel) (pa_cons (pv 0) (pa_cons (pe_tup (pa_cons (pe_bltn (v := .ty "tuple") (by rfl) T.tuple (by decide +kernel) rfl) (pa_cons (pe_bltn (v := .ty "list") (by rfl) T.list (by decide +kernel) rfl) pa_nil))) pa_nil)))))))) (pss_one ps_never) pss_nil)
          (pss_one (ps_ret (pe_and (pe_cmpR op_eq (pe_len T.len (pv 0)) (pe_len T.len (pv 1)) (nomark _)) (pe_one (pe_callB (cr_all rfl) (by rfl) T.all (by decide +kernel) (pa_cons (pe_lc (own := [("_law_one", 2), ("_law_two", 3)]) (g := gTup K 2 (gCons (gName 2) (gCons (gName 3) gNil))) (tt := tYes) rfl sc49.nd (RZ.pi_zipA (by rfl) T.zip (pa_cons (pv 0) (pa_cons (pv 1) pa_nil))) (blkOk_by (N := N49) (sc := defScope (top 49)) (by decide +kernel))
            (fun _ _ _ _ _ => pg_tupK (K := K) rfl rfl (pgs_cons (pg_name (i := 2) sc49.nd rfl (Or.inl rfl)) (pgs_cons (pg_name (i := 3) sc49.nd rfl (Or.inl rfl)) pgs_nil))) (fun _ _ _ _ _ => pts_nil) (fun _ _ _ _ _ => pe_cd GA hr (Nat.le_refl _) (by rfl) (pa_cons (pv 2) (pa_cons (pv 3) pa_nil)))) pa_nil))))))) pss_nil)
      (pss_one ps_never), ?_⟩
    rcases hab with ⟨ha, hb⟩ | ⟨ha, hb⟩
    · refine ⟨_, rfl, by show 2 ≤ sizeLine; decide, fun p hp => ?_⟩
      have s1 : Same H (upd H p (.tup [.ty "tuple", .ty "list"])) := put (Same.refl H) hp
      refine ⟨_, p, _, _, [.type "tuple", .type "list"], true, rfl, upd_same, .cons (.ty _) (.cons (.ty _) .nil), .base (.tup (s1 _ _ hb)), kTL (kit_ty (r := true) (by decide +kernel)) (kit_ty (r := false) (by decide +kernel)) rfl, _, rfl, iteT ?_⟩
      refine ⟨_, rfl, _, _, _, _, true, rfl, .ty "tuple", .base (.tup (s1 _ _ ha)), kit_ty (by decide +kernel), _, rfl, _, _, _, _, true, rfl, .ty "tuple", .base (.tup (s1 _ _ hb)), kit_ty (by decide +kernel), rfl, false, rfl, iteF ?_⟩
      refine ⟨_, rfl, by show 2 ≤ sizeLine; decide, fun p2 hp2 => ?_⟩
      have s2 : Same H (upd (upd H p (.tup [.ty "tuple", .ty "list"])) p2 (.tup [.ty "tuple", .ty "list"])) := put s1 (s1.free hp2)
      refine ⟨_, p2, _, _, [.type "tuple", .type "list"], true, rfl, upd_same, .cons (.ty _) (.cons (.ty _) .nil), .base (.tup (s2 _ _ ha)), kTL (kit_ty (r := true) (by decide +kernel)) (kit_ty (r := false) (by decide +kernel)) rfl, _, rfl, iteF ?_⟩
      refine ⟨_, rfl, _, _, rfl, .inr ⟨_, SqT.of (s2 _ _ ha), rfl⟩, _, rfl, _, _, rfl, .inr ⟨_, SqT.of (s2 _ _ hb), rfl⟩, rfl, true, congrArg V.bl (decide_eq_true (by rw [hlen])), iteT ?_⟩
      refine ⟨_, rfl, _, rfl, a, b, xs, ys, rfl, .inr ⟨SqT.of (s2 _ _ ha), SqT.of (s2 _ _ hb), fun L hL => lc_it (walk_zipT (K := K) (a := a) (b := b) (xs := xs) (ys := ys) (n := xs.length) (by rw [← hlen, Nat.min_self])) (fun i H' => Same H H' ∧ H L = none ∧ H' L = some (.lst ((List.replicate i true).map V.bl))) ⟨put s2 (s2.free hL), s2.free hL, upd_same⟩ (fun i H' _ ⟨s3, _⟩ => ⟨SqT.of (s3 _ _ ha), SqT.of (s3 _ _ hb)⟩) ?_ ?_⟩⟩
      · rintro i v H3 H4 hi ⟨s3, n3, e3⟩ ⟨q, x, y, rfl, hq, rfl, hx, hy⟩
        refine ⟨_, _, rfl, SqT.of upd_same, rfl, _, _, rfl, _, _, rfl, rfl, rfl, ?_⟩
        refine ⟨_, rfl, _, rfl, sub _ i x y _ (put s3 (s3.free hq)) hx hy fun H5 s5 => ?_⟩
        refine ⟨_, s5 _ _ (upd_eq e3 hq), ?_, put ((put s3 (s3.free hq)).trans s5) n3, n3, ?_⟩
        · rw [List.length_map, List.length_replicate]
          exact line1 (by omega)
        · rw [upd_same, List.replicate_succ', List.map_append]
          rfl
      · rintro H3 ⟨s3, n3, e3⟩
        refine ⟨_, _, rfl, SqL.of e3, ?_⟩
        rw [all_rep]
        exact k _ s3
    · refine ⟨_, rfl, by show 2 ≤ sizeLine; decide, fun p hp => ?_⟩
      have s1 : Same H (upd H p (.tup [.ty "tuple", .ty "list"])) := put (Same.refl H) hp
      refine ⟨_, p, _, _, [.type "tuple", .type "list"], true, rfl, upd_same, .cons (.ty _) (.cons (.ty _) .nil), .base (.lst (s1 _ _ hb)), kTL (kit_ty (r := false) (by decide +kernel)) (kit_ty (r := true) (by decide +kernel)) rfl, _, rfl, iteT ?_⟩
      refine ⟨_, rfl, _, _, _, _, false, rfl, .ty "tuple", .base (.lst (s1 _ _ ha)), kit_ty (by decide +kernel), _, rfl, _, _, _, _, false, rfl, .ty "tuple", .base (.lst (s1 _ _ hb)), kit_ty (by decide +kernel), rfl, false, rfl, iteF ?_⟩
      refine ⟨_, rfl, by show 2 ≤ sizeLine; decide, fun p2 hp2 => ?_⟩
      have s2 : Same H (upd (upd H p (.tup [.ty "tuple", .ty "list"])) p2 (.tup [.ty "tuple", .ty "list"])) := put s1 (s1.free hp2)
      refine ⟨_, p2, _, _, [.type "tuple", .type "list"], true, rfl, upd_same, .cons (.ty _) (.cons (.ty _) .nil), .base (.lst (s2 _ _ ha)), kTL (kit_ty (r := false) (by decide +kernel)) (kit_ty (r := true) (by decide +kernel)) rfl, _, rfl, iteF ?_⟩
      refine ⟨_, rfl, _, _, rfl, .inl ⟨_, SqL.of (s2 _ _ ha), rfl⟩, _, rfl, _, _, rfl, .inl ⟨_, SqL.of (s2 _ _ hb), rfl⟩, rfl, true, congrArg V.bl (decide_eq_true (by rw [hlen])), iteT ?_⟩
      refine ⟨_, rfl, _, rfl, a, b, xs, ys, rfl, .inl ⟨SqL.of (s2 _ _ ha), SqL.of (s2 _ _ hb), fun L hL => lc_it (walk_zip (K := K) (a := a) (b := b) (xs := xs) (ys := ys) (n := xs.length) (by rw [← hlen, Nat.min_self])) (fun i H' => Same H H' ∧ H L = none ∧ H' L = some (.lst ((List.replicate i true).map V.bl))) ⟨put s2 (s2.free hL), s2.free hL, upd_same⟩ (fun i H' _ ⟨s3, _⟩ => ⟨SqL.of (s3 _ _ ha), SqL.of (s3 _ _ hb)⟩) ?_ ?_⟩⟩
      · rintro i v H3 H4 hi ⟨s3, n3, e3⟩ ⟨q, x, y, rfl, hq, rfl, hx, hy⟩
        refine ⟨_, _, rfl, SqT.of upd_same, rfl, _, _, rfl, _, _, rfl, rfl, rfl, ?_⟩
        refine ⟨_, rfl, _, rfl, sub _ i x y _ (put s3 (s3.free hq)) hx hy fun H5 s5 => ?_⟩
        refine ⟨_, s5 _ _ (upd_eq e3 hq), ?_, put ((put s3 (s3.free hq)).trans s5) n3, n3, ?_⟩
        · rw [List.length_map, List.length_replicate]
          exact line1 (by omega)
        · rw [upd_same, List.replicate_succ', List.map_append]
          rfl
      · rintro H3 ⟨s3, n3, e3⟩
        refine ⟨_, _, rfl, SqL.of e3, ?_⟩
        rw [all_rep]
        exact k _ s3
theorem Cd.imp {k : Nat} {x : Str} {sp sp' : Sp} (c : Cd P w K mg base k x sp) (h : ∀ vs H Q E, sp' vs H Q E → sp vs H Q E) : Cd P w K mg base k x sp' := by
  obtain ⟨f, fd, ps, F, r⟩ := c.ex
  exact ⟨f, fd, ps, F.imp h, r⟩
theorem ok_isB (T : Txt K mg CL CM CC) (D : Df K mg "_law_is" (top 49) ["_law_told", "_law_due"]) : Cd P w K mg base 2 "_law_is" spIsB := by
  refine (ok_isSeq T D (ok_isA T D)).imp fun vs H Q E h => ?_
  obtain ⟨a, b, i, j, rfl, ha, hb, k⟩ := h
  refine ⟨a, b, _, _, rfl, .inl ⟨ha, hb⟩, rfl, by show 2 ≤ 4000; decide, fun H' n x y Q' s hx hy q => ?_, k⟩
  rw [hx] at hy
  obtain rfl := Option.some.inj hy
  refine ⟨x, rfl, ?_, q⟩
  rcases List.mem_cons.mp (List.mem_of_getElem? hx) with rfl | h
  · exact .int _
  · rw [List.mem_singleton.mp h]
    exact .int _
theorem ok_isC (T : Txt K mg CL CM CC) (D : Df K mg "_law_is" (top 49) ["_law_told", "_law_due"]) : Cd P w K mg base 3 "_law_is" spIsC := by
  refine (ok_isSeq T D (ok_isB T D)).imp fun vs H Q E h => ?_
  obtain ⟨a, b, ps, rfl, ⟨zs, hz, ez⟩, ⟨ys, hy, ey⟩, hl, k⟩ := h
  have l1 : zs.length = ps.length := by rw [← ez, List.length_map]
  have l2 : ys.length = ps.length := by rw [← ey, List.length_map]
  refine ⟨a, b, _, _, rfl, .inr ⟨hz.1, hy.1⟩, by rw [List.length_map, List.length_map, l1, l2], by rw [List.length_map]; omega, fun H' n x y Q' s hx hx2 q => ?_, k⟩
  obtain ⟨z, h1, rfl⟩ := at_map hx
  obtain ⟨u, h2, rfl⟩ := at_map hx2
  have e1 : ps[n]? = some z.2 := by rw [← ez, List.getElem?_map, h1]; rfl
  have e2 : ps[n]? = some u.2 := by rw [← ey, List.getElem?_map, h2]; rfl
  rw [e1] at e2
  have e2 := Option.some.inj e2
  refine ⟨z.1, u.1, (z.2.1 : Nat), (z.2.2 : Nat), rfl, s _ _ (hz.2 z (List.mem_of_getElem? h1)), ?_, q⟩
  have h3 := s _ _ (hy.2 u (List.mem_of_getElem? h2))
  rw [← e2] at h3
  exact h3
end
end Ep
end
section
set_option linter.all false
set_option maxRecDepth 100000
/-! EpL9: the law's least parts. -/
namespace Ep
open PySem PySem.W PySem.Calls PyProof.Rows L2 EP EpR
def likeR (ts : List Wd) (g : Wd) (a n : Nat) : List Pl := ((List.range' (a + 1) n).filter fun b => decide (cnt ts (cut g a b) = cnt ts g)).map fun b => (a, b)
theorem likes_eq (ts : List Wd) (g : Wd) : likes ts g = (List.range g.length).flatMap fun a => likeR ts g a (g.length - a) := rfl
theorem likeR_succ (ts : List Wd) (g : Wd) (a n : Nat) : likeR ts g a (n + 1) = likeR ts g a n ++ if cnt ts (cut g a (a + 1 + n)) = cnt ts g then [(a, a + 1 + n)] else [] := by
  unfold likeR
  rw [List.range'_1_concat, List.filter_append, List.map_append]
  by_cases h : cnt ts (cut g a (a + 1 + n)) = cnt ts g
  · rw [if_pos h, List.filter_cons_of_pos (by exact decide_eq_true h)]
    rfl
  · rw [if_neg h, List.filter_cons_of_neg (by simpa using h)]
    rfl
theorem likeR_len (ts : List Wd) (g : Wd) (a n : Nat) : (likeR ts g a n).length ≤ n := by
  unfold likeR
  rw [List.length_map]
  refine Nat.le_trans (List.length_filter_le _ _) ?_
  rw [List.length_range']
  exact Nat.le_refl _
def likeP (ts : List Wd) (g : Wd) (a : Nat) : List Pl := (List.range a).flatMap fun a => likeR ts g a (g.length - a)
theorem likeP_succ (ts : List Wd) (g : Wd) (a : Nat) : likeP ts g (a + 1) = likeP ts g a ++ likeR ts g a (g.length - a) := by
  unfold likeP
  rw [List.range_succ, List.flatMap_append, List.flatMap_singleton]
theorem likeP_len (ts : List Wd) (g : Wd) (a : Nat) : (likeP ts g a).length ≤ a * g.length := by
  induction a with
  | zero => exact Nat.zero_le _
  | succ a ih =>
    rw [likeP_succ, List.length_append, Nat.succ_mul]
    have := likeR_len ts g a (g.length - a)
    omega
def under (p q : Pl) : Bool := decide (p.1 ≤ q.1 ∧ q.2 ≤ p.2)
def spLeast : Sp := fun vs H Q _ => ∃ (t : Addr) (ts : List Wd) (g : Wd), vs = [.ref t, VS g, .int (cnt ts g : Nat)] ∧ TxAt H t ts ∧ Good ts ∧ g.length ≤ 100 ∧ ∀ H' l, Same H H' → PL H' l (leasts ts g) → Q (.ref l) H'
section
variable {P : Program} {w : World} {K : PySem.W.Frag} {mg : Str → Option Value} {base : Heap} {CL CM CC : Addr}
abbrev N50 : List Str := ["_law_texts_here", "_law_longest", "_law_many", "_law_like", "_law_begin", "_law_end", "_law_found", "_law_one"]
theorem sc50 : FnScope N50 ["_law_texts_here", "_law_longest", "_law_many"] (defScope (top 50)) := ⟨rfl, rfl, rfl, by decide +kernel, rfl, by decide +kernel, by decide +kernel⟩
theorem ok_least (T : Txt K mg CL CM CC) (D : Df K mg "_law_least" (top 50) ["_law_texts_here", "_law_longest", "_law_many"]) (GP : Cd P w K mg base 1 "_law_places" spPl) : Cd P w K mg base 2 "_law_least" spLeast := by
  refine D.ok sc50 (fun vs H Q E h => ?_) (fun f cdv A outer s H vs Q E hr h => ?_)
  · obtain ⟨t, ts, g, rfl, _⟩ := h
    rfl
  · obtain ⟨t, ts, g, rfl, ht, hg, hgl, k⟩ := h
    have hgS : (Ep.S g).length ≤ sizeLine := by rw [S_len]; exact line2 (by omega)
    refine ⟨_, pss_cons (ps_set (i := 3) sc50.nd rfl (Or.inl rfl) (pe_lst pa_nil))
      (pss_cons (ps_for PassesOwn.never rfl (pi_range1 (by rfl) T.range (pa_cons (pe_lens T.len (pv 1)) pa_nil)) (pg_name (i := 4) sc50.nd rfl (Or.inr rfl))
        (pss_one (ps_for PassesOwn.never rfl (pi_range2 (by rfl) T.range (pa_cons (pe_op op_add (pv 4) pe_int) (pa_cons (pe_op op_add (pe_lens T.len (pv 1)) pe_int) pa_nil))) (pg_name (i := 5) sc50.nd rfl (Or.inr rfl))
          (pss_one (ps_if (pt_cmpR op_eq (pe_len T.len (pe_cd GP hr (by decide) (by rfl) (pa_cons (pv 0) (pa_cons (pe_slice sl_str (pv 1) (po_some (pv 4)) (po_some (pv 5))) pa_nil)))) (pv 2) (nomark _))
            (pss_one (ps_expr (pe_bm PySem.F.plainAttrs_list PySem.F.slot_list_append PySem.F.type_list_append mt_append (pv 3) (pa_cons (pe_tup (pa_cons (pv 4) (pa_cons (pv 5) pa_nil))) pa_nil)))) pss_nil)))))
      (pss_cons (ps_set (i := 6) sc50.nd rfl (Or.inl rfl) (pe_lst pa_nil))
      (pss_cons (ps_for PassesOwn.never rfl (pi_list (pv 3)) (pg_tup rfl (pgs_cons (pg_name (i := 4) sc50.nd rfl (Or.inr rfl)) (pgs_cons (pg_name (i := 5) sc50.nd rfl (Or.inr rfl)) pgs_nil)))
        (pss_one (ps_if (pt_cmpR op_eq (pe_len T.len (pe_lc (own := [("_law_one", 7)]) (g := gName 7) rfl sc50.nd (pi_list (pv 3)) (blkOk_by (N := N50) (sc := defScope (top 50)) (by decide +kernel))
            (fun _ _ _ _ _ => pg_name (i := 7) sc50.nd rfl (Or.inl rfl)) (fun _ _ _ _ _ => pts_one (PW.pt (pw_and (pt_cmpR op_le (pv 4) (px_ixT (K := K) rfl (pv 7) pe_int (fun _ _ => rfl)) (nomark _)) (pw_and1 (pt_cmpR op_le (px_ixT (K := K) rfl (pv 7) pe_int (fun _ _ => rfl)) (pv 5) (nomark _)))))) (fun _ _ _ _ _ => pv 7))) pe_int (nomark _))
          (pss_one (ps_expr (pe_bm PySem.F.plainAttrs_list PySem.F.slot_list_append PySem.F.type_list_append mt_append (pv 6) (pa_cons (pe_tup (pa_cons (pv 4) (pa_cons (pv 5) pa_nil))) pa_nil)))) pss_nil)))
      (pss_one (ps_ret (pv 6)))))), ?_⟩
    refine ⟨by decide, fun lk hlk => ?_⟩
    have s0 : Same H (upd H lk (.lst [])) := put (Same.refl H) hlk
    refine ⟨_, rfl, _, rfl, hgS, _, rfl, by rw [S_len]; omega, by rw [S_len]; omega, ?_⟩
    rw [S_len, Int.toNat_natCast]
    refine for_range (lo := 0) (n := g.length) (fun a σ H' => ∃ v4 v5 zs, σ = [some (.ref t), some (VS g), some (.int (cnt ts g : Nat)), some (.ref lk), v4, v5, none, none] ∧ Same H H' ∧ ZL H' lk zs ∧ zs.map Prod.snd = likeP ts g a) ⟨none, none, [], rfl, s0, ZL.nil, rfl⟩ ?_ ?_
    · rintro a σ H1 ha ⟨v4, v5, zs, rfl, s1, z1, e1⟩
      rw [Int.zero_add]
      refine ⟨_, rfl, _, _, rfl, rfl, _, rfl, _, rfl, hgS, _, _, rfl, rfl, _, _, rfl, ?_, ?_⟩
      · rw [S_len]; omega
      rw [S_len]
      have en : (((g.length : Nat) : Int) + 1 - (((a : Nat) : Int) + 1)).toNat = g.length - a := by omega
      rw [en]
      refine for_range (lo := (a : Nat) + 1) (n := g.length - a) (fun n σ H' => ∃ v5 zs, σ = [some (.ref t), some (VS g), some (.int (cnt ts g : Nat)), some (.ref lk), some (.int (a : Nat)), v5, none, none] ∧ Same H H' ∧ ZL H' lk zs ∧ zs.map Prod.snd = likeP ts g a ++ likeR ts g a n) ⟨_, zs, rfl, s1, z1, by rw [e1]; unfold likeR; simp⟩ ?_ ?_
      · rintro n σ H2 hn ⟨v5, zs, rfl, s2, z2, e2⟩
        have hcl : (cut g a (a + 1 + n)).length = n + 1 := by rw [cut_len]; omega
        have ec : cutS (Ep.S g) (some ((a : Nat) : Int)) (some (((a : Nat) : Int) + 1 + (n : Nat))) = Ep.S (cut g a (a + 1 + n)) := by
          rw [show ((a : Nat) : Int) + 1 + (n : Nat) = ((a + 1 + n : Nat) : Int) by omega, cut_both]
          rfl
        have hzl : zs.length ≤ 20000 := by
          have h1 := congrArg List.length e2
          rw [List.length_map, List.length_append] at h1
          have h2 := likeP_len ts g a
          have h3 := likeR_len ts g a n
          have h4 : a * g.length ≤ 100 * 100 := Nat.mul_le_mul (by omega) hgl
          omega
        refine ⟨_, rfl, _, rfl, _, rfl, _, rfl, _, rfl, _, rfl, _, rfl, hgS, t, ts, cut g a (a + 1 + n), congrArg (fun v => [V.ref t, V.str v]) ec, s2 _ _ ht, hg, (fun e => by rw [e] at hcl; simp at hcl), by omega, fun H3 l3 s3 hp3 => ?_⟩
        obtain ⟨ys, hy, ey⟩ := hp3
        have hyl : ys.length = cnt ts (cut g a (a + 1 + n)) := by rw [← List.length_map (f := Prod.snd), ey]; rfl
        refine ⟨_, _, rfl, .inl ⟨_, SqL.of hy.1, rfl⟩, _, rfl, rfl, _, rfl, ?_⟩
        rw [dec_int, List.length_map, hyl]
        have z3 := z2.same s3
        refine ite2 (fun q => ?_) (fun q => ?_)
        · have q : cnt ts (cut g a (a + 1 + n)) = cnt ts g := by have := eq_of_beq q; omega
          refine ⟨_, rfl, .inl ⟨rfl, _, SqL.of z3.1⟩, _, rfl, _, rfl, by show 2 ≤ sizeLine; decide, fun p hp => ?_⟩
          refine ⟨lk, _, _, rfl, rfl, upd_eq z3.1 hp, by rw [List.length_map]; exact line1 (by omega), ?_⟩
          refine ⟨_, zs ++ [(p, (a, a + 1 + n))], rfl, put (put (s2.trans s3) ((s2.trans s3).free hp)) hlk, ZL.snoc ?_ z3 hp, ?_⟩
          · show HO.tup [V.int (a : Nat), V.int ((a : Nat) + 1 + (n : Nat))] = HO.tup [V.int (a : Nat), V.int ((a + 1 + n : Nat) : Int)]
            rw [show ((a : Nat) : Int) + 1 + (n : Nat) = ((a + 1 + n : Nat) : Int) by omega]
          · rw [List.map_append, e2, likeR_succ, if_pos q, List.append_assoc]
            rfl
        · have q : ¬ cnt ts (cut g a (a + 1 + n)) = cnt ts g := fun e => q (by rw [e]; simp)
          refine ⟨_, zs, rfl, s2.trans s3, z3, ?_⟩
          rw [e2, likeR_succ, if_neg q, List.append_nil]
      · rintro σ H2 ⟨v5, zs, rfl, s2, z2, e2⟩
        exact ⟨_, _, zs, rfl, s2, z2, by rw [e2, likeP_succ]⟩
    · rintro σ H1 ⟨v4, v5, zs, rfl, s1, z1, e1⟩
      have e1 : zs.map Prod.snd = likes ts g := e1
      have hzl : zs.length ≤ 10000 := by
        have h1 := congrArg List.length e1
        rw [List.length_map] at h1
        have h2 : (likes ts g).length ≤ g.length * g.length := likeP_len ts g g.length
        have h4 : g.length * g.length ≤ 100 * 100 := Nat.mul_le_mul hgl hgl
        omega
      refine ⟨by decide, fun F hF => ?_⟩
      have hF0 := s1.free hF
      have s2 : Same H1 (upd H1 F (.lst [])) := put (Same.refl _) hF
      refine ⟨_, rfl, lk, rfl, ⟨_, SqL.of (s2 _ _ z1.1)⟩, for_list (K := K) (a := lk) (xs := zs.map fun z => V.ref z.1) (fun i σ H' => ∃ v4 v5 ys, σ = [some (.ref t), some (VS g), some (.int (cnt ts g : Nat)), some (.ref lk), v4, v5, some (.ref F), none] ∧ Same H1 H' ∧ ZL H' F ys ∧ ys.map Prod.snd = ((likes ts g).take i).filter fun p => decide (((likes ts g).filter fun q => decide (p.1 ≤ q.1 ∧ q.2 ≤ p.2)).length = 1))
        ⟨_, _, [], rfl, s2, ZL.nil, rfl⟩ (fun i σ H' _ ⟨_, _, _, _, q, _⟩ => SqL.of (q _ _ z1.1)) ?_ ?_⟩
      · rintro i y σ H3 hy ⟨v4, v5, ys, rfl, s3, y3, e3⟩
        obtain ⟨z, hz, rfl⟩ := at_map hy
        have hm := List.mem_of_getElem? hz
        have hp : (likes ts g)[i]? = some z.2 := by rw [← e1, List.getElem?_map, hz]; rfl
        have hyl : ys.length ≤ 10000 := by
          have h1 := congrArg List.length e3
          rw [List.length_map] at h1
          have h3 := congrArg List.length e1
          rw [List.length_map] at h3
          rw [h1]
          exact Nat.le_trans (List.length_filter_le _ _) (by rw [List.length_take]; omega)
        refine ⟨_, _, rfl, SqT.of (s3 _ _ (z1.2 z hm)), rfl, _, _, rfl, _, _, rfl, rfl, ?_⟩
        refine ⟨_, rfl, lk, rfl, ⟨_, SqL.of (s3 _ _ z1.1)⟩, fun L hL => lc_it (walk_list (K := K) (xs := zs.map fun z => V.ref z.1)) (fun j H' => Same H3 H' ∧ ∃ ws : List V, H' L = some (.lst ws) ∧ ws.length = (((likes ts g).take j).filter fun q => decide (z.2.1 ≤ q.1 ∧ q.2 ≤ z.2.2)).length) ⟨put (Same.refl _) hL, [], upd_same, rfl⟩ (fun i H' _ ⟨q, _⟩ => SqL.of (q _ _ (s3 _ _ z1.1))) ?_ ?_⟩
        · rintro j y H4 H5 hj ⟨s4, ws, w4, l4⟩ ⟨rfl, hy⟩
          obtain ⟨x, hx, rfl⟩ := at_map hy
          have hxm := List.mem_of_getElem? hx
          have hq : (likes ts g)[j]? = some x.2 := by rw [← e1, List.getElem?_map, hx]; rfl
          have hxt := s4 _ _ (s3 _ _ (z1.2 x hxm))
          have hwl : ws.length ≤ 10000 := by
            have h3 := congrArg List.length e1
            rw [List.length_map] at h3
            rw [l4]
            exact Nat.le_trans (List.length_filter_le _ _) (by rw [List.length_take]; omega)
          have tk : (likes ts g).take (j + 1) = (likes ts g).take j ++ [x.2] := by rw [List.take_add_one, hq]; rfl
          have no : ¬ (z.2.1 ≤ x.2.1 ∧ x.2.2 ≤ z.2.2) → Same H3 H5 ∧ ∃ ws : List V, H5 L = some (.lst ws) ∧ ws.length = (((likes ts g).take (j + 1)).filter fun q => decide (z.2.1 ≤ q.1 ∧ q.2 ≤ z.2.2)).length := fun h => by
            refine ⟨s4, ws, w4, ?_⟩
            rw [tk, List.filter_append, List.filter_cons_of_neg (by simpa using h), l4]
            simp
          refine ⟨rfl, _, rfl, _, rfl, x.1, _, _, _, rfl, rfl, SqT.of hxt, atI_nat (j := 0) rfl, _, _, rfl, rfl, _, rfl, ?_⟩
          refine ite2 (fun q1 => ?_) (fun q1 => ?_)
          · have q1 : ((z.2.1 : Nat) : Int) ≤ (x.2.1 : Nat) := of_decide_eq_true q1
            refine ⟨_, rfl, x.1, _, _, _, rfl, rfl, SqT.of hxt, atI_nat (j := 1) rfl, _, rfl, _, _, rfl, rfl, _, rfl, ?_⟩
            refine ite2 (fun q2 => ?_) (fun q2 => ?_)
            · have q2 : ((x.2.2 : Nat) : Int) ≤ (z.2.2 : Nat) := of_decide_eq_true q2
              refine ⟨_, rfl, _, w4, line1 (by omega), put s4 hL, _, upd_same, ?_⟩
              rw [tk, List.filter_append, List.filter_cons_of_pos (by exact decide_eq_true ⟨by omega, by omega⟩), List.length_append, List.length_append, l4]
              rfl
            · have q2 : ¬ ((x.2.2 : Nat) : Int) ≤ (z.2.2 : Nat) := fun e => q2 (decide_eq_true e)
              exact no (by omega)
          · have q1 : ¬ ((z.2.1 : Nat) : Int) ≤ (x.2.1 : Nat) := fun e => q1 (decide_eq_true e)
            exact no (by omega)
        rintro H4 ⟨s4, ws, w4, l4⟩
        have hlz : (zs.map fun z => V.ref z.1).length = (likes ts g).length := by rw [List.length_map, ← e1, List.length_map]
        rw [hlz, List.take_length] at l4
        have y4 := y3.same s4
        have s34 := s3.trans s4
        refine ⟨_, _, rfl, .inl ⟨_, SqL.of w4, rfl⟩, rfl, _, rfl, ?_⟩
        rw [dec_int, l4]
        have tk : (likes ts g).take (i + 1) = (likes ts g).take i ++ [z.2] := by rw [List.take_add_one, hp]; rfl
        refine ite2 (fun q => ?_) (fun q => ?_)
        · have q : ((likes ts g).filter fun q => decide (z.2.1 ≤ q.1 ∧ q.2 ≤ z.2.2)).length = 1 := by have := eq_of_beq q; omega
          refine ⟨_, rfl, .inl ⟨rfl, _, SqL.of y4.1⟩, _, rfl, _, rfl, by show 2 ≤ sizeLine; decide, fun p hp => ?_⟩
          refine ⟨F, _, _, rfl, rfl, upd_eq y4.1 hp, by rw [List.length_map]; exact line1 (by omega), ?_⟩
          refine ⟨_, _, ys ++ [(p, z.2)], rfl, put (put s34 (s34.free hp)) hF, ZL.snoc rfl y4 hp, ?_⟩
          rw [List.map_append, e3, tk, List.filter_append]
          congr 1
          rw [List.filter_cons_of_pos (by exact decide_eq_true q)]
          rfl
        · have q : ¬ ((likes ts g).filter fun q => decide (z.2.1 ≤ q.1 ∧ q.2 ≤ z.2.2)).length = 1 := fun e => q (by rw [e]; rfl)
          refine ⟨_, _, ys, rfl, s34, y4, ?_⟩
          rw [e3, tk, List.filter_append, List.filter_cons_of_neg (by simpa using q)]
          simp
      · rintro σ H3 ⟨v4, v5, ys, rfl, s3, y3, e3⟩
        have hlz : (zs.map fun z => V.ref z.1).length = (likes ts g).length := by rw [List.length_map, ← e1, List.length_map]
        rw [hlz, List.take_length] at e3
        exact ⟨_, rfl, k _ _ (s1.trans s3) ⟨ys, y3, e3⟩⟩
end
end Ep
end
section
set_option linter.all false
set_option maxRecDepth 100000
/-! EpL10: the law's long texts. -/
namespace Ep
open PySem PySem.W PySem.Calls PyProof.Rows L2 EP EpR
def spLong : Sp := fun vs H Q _ => ∃ h cl : Addr, vs = [.ref h] ∧ HandAt H h cl ∧ ∀ H', SH H H' → HandAt H' h cl → Q (.bl true) H'
theorem good_of {ts : List Wd} (h1 : ts.length ≤ 8) (h2 : (ts.map List.length).sum ≤ 2000) (h3 : ∀ t ∈ ts, Sgn t) : Good ts := ⟨h1, h2, h3⟩
/-- the four libraries that are drawn from -/
def four (x y : Wd) : List (List Wd) := [[x], [x, x ++ y], [y ++ x, x], [x, [], x.drop 7]]
theorem four_ok {x y : Wd} (hx : x.length ≤ 160) (hy : y.length ≤ 9) (sx : Sgn x) (sy : Sgn y) : ∀ ts ∈ four x y, Good ts ∧ 0 < ts.length := by
  intro ts h
  have sd : Sgn (x.drop 7) := sgn_sub sx fun c hc => List.mem_of_mem_drop hc
  have se : Sgn [] := fun c hc => nomatch hc
  unfold four at h
  simp only [List.mem_cons, List.not_mem_nil, or_false] at h
  rcases h with rfl | rfl | rfl | rfl
  · refine ⟨good_of (by simp) (by simp; omega) fun t ht => ?_, by simp⟩
    simp only [List.mem_cons, List.not_mem_nil, or_false] at ht
    rw [ht]; exact sx
  · refine ⟨good_of (by simp) (by simp; omega) fun t ht => ?_, by simp⟩
    simp only [List.mem_cons, List.not_mem_nil, or_false] at ht
    rcases ht with rfl | rfl
    · exact sx
    · exact sgn_app sx sy
  · refine ⟨good_of (by simp) (by simp; omega) fun t ht => ?_, by simp⟩
    simp only [List.mem_cons, List.not_mem_nil, or_false] at ht
    rcases ht with rfl | rfl
    · exact sgn_app sy sx
    · exact sx
  · refine ⟨good_of (by simp) (by simp; omega) fun t ht => ?_, by simp⟩
    simp only [List.mem_cons, List.not_mem_nil, or_false] at ht
    rcases ht with rfl | rfl | rfl
    · exact sx
    · exact se
    · exact sd
theorem iteF' {A B : Prop} {c : Bool} (e : c = false) (h : B) : if c = true then A else B := by
  rw [e]
  exact iteF h
theorem drop7 (x : Wd) : cutS (Ep.S x) (some 7) none = Ep.S (x.drop 7) := cut_from x 7
section
variable {P : Program} {w : World} {K : PySem.W.Frag} {mg : Str → Option Value} {base : Heap} {CL CM CC : Addr}
abbrev N51 : List Str := ["_law_hand_here", "_law_text_here", "_law_tail", "_law_texts_here", "_law_library", "_law_turn", "_law_number", "_law_at", "_law_word", "_law_due", "_law_ahead"]
theorem sc51 : FnScope N51 ["_law_hand_here"] (defScope (top 51)) := ⟨rfl, rfl, rfl, by decide +kernel, rfl, by decide +kernel, by decide +kernel⟩
theorem ok_long (T : Txt K mg CL CM CC) (D : Df K mg "_law_long_right" (top 51) ["_law_hand_here"]) (GD : Cd P w K mg base 1 "_law_draw" spDraw) (GT : Cd P w K mg base 2 "_law_text" spText) (GL : Ci P w K mg base 3 CL "Library" (spLibInit CL))
    (GG : Cd P w K mg base 1 "_law_grown" spLGrown) (GP : Cd P w K mg base 1 "_law_places" spPl) (GI : Cd P w K mg base 1 "_law_is" spIsA) (GF : Cd P w K mg base 1 "_law_flag" spFlag) (GR : Cd P w K mg base 6 "grown" (spGrown CL)) (GN : Cd P w K mg base 6 "is_longest" (spIsLongest CL)) (GC : Cd P w K mg base 8 "class_of" (spClassOf CL)) :
    Cd P w K mg base 9 "_law_long_right" spLong := by
  refine D.ok sc51 (fun vs H Q E h => ?_) (fun f cdv A outer s H vs Q E hr h => ?_)
  · obtain ⟨h, cl, rfl, _⟩ := h
    rfl
  · obtain ⟨h, cl, rfl, hh, k⟩ := h
    refine ⟨_, pss_cons (ps_set (i := 1) sc51.nd rfl (Or.inl rfl) (pe_cd GT hr (by decide) (by rfl) (pa_cons (pv 0) (pa_cons pe_int pa_nil))))
      (pss_cons (ps_set (i := 2) sc51.nd rfl (Or.inl rfl) (pe_cd GT hr (by decide) (by rfl) (pa_cons (pv 0) (pa_cons pe_int pa_nil))))
      (pss_cons (ps_set (i := 3) sc51.nd rfl (Or.inl rfl) (pe_ix ix_list (pe_lst (pa_cons (pe_tup (pa_cons (pv 1) pa_nil)) (pa_cons (pe_tup (pa_cons (pv 1) (pa_cons (pe_op op_add_str (pv 1) (pv 2)) pa_nil))) (pa_cons (pe_tup (pa_cons (pe_op op_add_str (pv 2) (pv 1)) (pa_cons (pv 1) pa_nil)))
          (pa_cons (pe_tup (pa_cons (pv 1) (pa_cons pe_str (pa_cons (pe_slice sl_str (pv 1) (po_some pe_int) po_none) pa_nil)))) pa_nil))))) (pe_cd GD hr (by decide) (by rfl) (pa_cons (pv 0) (pa_cons pe_int pa_nil))) (fun _ _ => rfl)))
      (pss_cons (ps_set (i := 4) sc51.nd rfl (Or.inl rfl) (pe_ci GL hr (by decide) (by rfl) (pa_cons (pv 3) pa_nil)))
      (pss_cons (ps_for PassesOwn.never rfl (pi_range1 (by rfl) T.range (pa_cons pe_int pa_nil)) (pg_name (i := 5) sc51.nd rfl (Or.inl rfl))
        (pss_cons (ps_set (i := 6) sc51.nd rfl (Or.inl rfl) (pe_ix ix_list (pe_lst (pa_cons pe_int (pa_cons (pe_op op_sub (pe_len T.len (pv 3)) pe_int) pa_nil))) (pe_cd GD hr (by decide) (by rfl) (pa_cons (pv 0) (pa_cons pe_int pa_nil))) (fun _ _ => rfl)))
        (pss_one (ps_if (pt_cmpR op_ne (pe_ix ix_tup (pv 3) (pv 6) (fun _ _ => rfl)) pe_str (nomark _))
          (pss_cons (ps_set (i := 7) sc51.nd rfl (Or.inl rfl) (pe_cd GD hr (by decide) (by rfl) (pa_cons (pv 0) (pa_cons (pe_lens T.len (pe_ix ix_tup (pv 3) (pv 6) (fun _ _ => rfl))) pa_nil))))
          (pss_cons (ps_set (i := 8) sc51.nd rfl (Or.inl rfl) (pe_slice sl_str (pe_ix ix_tup (pv 3) (pv 6) (fun _ _ => rfl)) (po_some (pv 7)) (po_some (pe_op op_add (pe_op op_add (pv 7) pe_int) (pe_cd GD hr (by decide) (by rfl) (pa_cons (pv 0) (pa_cons (pe_ix ix_list (pe_lst (pa_cons pe_int (pa_cons pe_int pa_nil))) (pe_cd GD hr (by decide) (by rfl) (pa_cons (pv 0) (pa_cons pe_int pa_nil))) (fun _ _ => rfl)) pa_nil)))))))
          (pss_cons (ps_asg (pe_cd GG hr (by decide) (by rfl) (pa_cons (pv 3) (pa_cons (pe_cd GP hr (by decide) (by rfl) (pa_cons (pv 3) (pa_cons (pv 8) pa_nil))) (pa_cons (pv 8) pa_nil)))) (pg_tup rfl (pgs_cons (pg_name (i := 9) sc51.nd rfl (Or.inl rfl)) (pgs_cons (pg_name (i := 10) sc51.nd rfl (Or.inl rfl)) pgs_nil))))
          (pss_cons (ps_if (PW.pt (pw_or (pt_not (pt_val (pe_cd GI hr (by decide) (by rfl) (pa_cons (pe_cd GR hr (by decide) (by rfl) (pa_cons (pv 4) (pa_cons (pv 8) pa_nil))) (pa_cons (pv 9) pa_nil)))))
              (pw_or1 (pt_not (pt_val (pe_cd GF hr (by decide) (by rfl) (pa_cons (pe_cd GN hr (by decide) (by rfl) (pa_cons (pv 4) (pa_cons (pv 8) pa_nil))) (pa_cons (pe_cmpR op_eq (pv 8) (pv 9) (nomark _)) pa_nil)))))))) (pss_one ps_never) pss_nil)
          (pss_one (ps_if (pt_cmpR op_ne (pe_ix ix_tup (pe_cd GC hr (by decide) (by rfl) (pa_cons (pv 4) (pa_cons (pv 8) pa_nil))) pe_int (fun _ _ => rfl)) (pv 10) (nomark _)) (pss_one ps_never) pss_nil)))))) pss_nil))))
      (pss_one (ps_ret pe_bl)))))), ?_⟩
    refine ⟨_, rfl, h, cl, 160, rfl, hh, by decide, fun H1 x s1 h1 sx lx => ?_⟩
    refine ⟨_, rfl, h, cl, 9, rfl, h1, by decide, fun H2 y s2 h2 sy ly => ?_⟩
    have s12 := s1.trans s2
    have hxS : (Ep.S x).length ≤ sizeLine := by rw [S_len]; exact line2 (by omega)
    -- the four tuples
    refine ⟨_, rfl, by show 1 ≤ sizeLine; decide, fun p1 hp1 => ?_⟩
    refine ⟨_, rfl, _, rfl, _, rfl, _, _, rfl, rfl, by rw [S_len, S_len]; exact line2 (by omega), by show 2 ≤ sizeLine; decide, fun p2 hp2 => ?_⟩
    refine ⟨_, rfl, _, rfl, _, _, rfl, rfl, by rw [S_len, S_len]; exact line2 (by omega), _, rfl, by show 2 ≤ sizeLine; decide, fun p3 hp3 => ?_⟩
    refine ⟨_, rfl, _, rfl, _, rfl, _, rfl, hxS, by show 3 ≤ sizeLine; decide, fun p4 hp4 => ?_⟩
    refine ⟨by show 4 ≤ sizeLine; decide, fun p5 hp5 => ?_⟩
    have k1 : Same H2 (upd H2 p1 (.tup [VS x])) := put (Same.refl _) hp1
    have k2 := put (o := .tup [VS x, V.str (Ep.S x ++ Ep.S y)]) (Same.refl _) hp2
    have k3 := put (o := .tup [V.str (Ep.S y ++ Ep.S x), VS x]) (Same.refl _) hp3
    have k4 := put (o := .tup [VS x, V.str "", V.str (cutS (Ep.S x) (some 7) none)]) (Same.refl _) hp4
    have k5 := put (o := .lst [V.ref p1, V.ref p2, V.ref p3, V.ref p4]) (Same.refl _) hp5
    have c1 : _ = some (HO.tup ([x].map VS)) := k5 _ _ (k4 _ _ (k3 _ _ (k2 _ _ (upd_same (H := H2) (a := p1)))))
    have v2 : HO.tup [VS x, V.str (Ep.S x ++ Ep.S y)] = HO.tup ([x, x ++ y].map VS) := by rw [S_app]; rfl
    have v3 : HO.tup [V.str (Ep.S y ++ Ep.S x), VS x] = HO.tup ([y ++ x, x].map VS) := by rw [S_app]; rfl
    have v4 : HO.tup [VS x, V.str "", V.str (cutS (Ep.S x) (some 7) none)] = HO.tup ([x, [], x.drop 7].map VS) := by rw [drop7, lit_empty]; rfl
    have c2 := (k5 _ _ (k4 _ _ (k3 _ _ (upd_same (a := p2))))).trans (congrArg some v2)
    have c3 := (k5 _ _ (k4 _ _ (upd_same (a := p3)))).trans (congrArg some v3)
    have c4 := (k5 _ _ (upd_same (a := p4))).trans (congrArg some v4)
    have s2A := (((k1.trans k2).trans k3).trans k4).trans k5
    refine ⟨_, rfl, h, cl, 4, rfl, h2.same s2A, by decide, by decide, fun H3 d s3 h3 hd => ?_⟩
    have e5 := s3 _ _ (upd_same (a := p5)) (hd_refs (fun a : Addr => a) [p1, p2, p3, p4])
    obtain ⟨t, ts, ht, hts, hat⟩ : ∃ t ts, H3 t = some (.tup (ts.map VS)) ∧ ts ∈ four x y ∧ atI [V.ref p1, V.ref p2, V.ref p3, V.ref p4] ((d : Nat) : Int) = some (.ref t) := by
      match d, hd with
      | 0, _ => exact ⟨p1, _, s3 _ _ c1 (hd_tup _), List.mem_cons_self, rfl⟩
      | 1, _ => exact ⟨p2, _, s3 _ _ c2 (hd_tup _), List.mem_cons_of_mem _ List.mem_cons_self, rfl⟩
      | 2, _ => exact ⟨p3, _, s3 _ _ c3 (hd_tup _), List.mem_cons_of_mem _ (List.mem_cons_of_mem _ List.mem_cons_self), rfl⟩
      | 3, _ => exact ⟨p4, _, s3 _ _ c4 (hd_tup _), List.mem_cons_of_mem _ (List.mem_cons_of_mem _ (List.mem_cons_of_mem _ List.mem_cons_self)), rfl⟩
    obtain ⟨hg, hpos⟩ := four_ok lx ly sx sy ts hts
    have sH3 : SH H H3 := (s12.trans (Same.sh s2A)).trans s3
    refine ⟨p5, _, _, _, rfl, rfl, SqL.of e5, hat, ?_⟩
    -- the library
    refine ⟨_, rfl, fun b dx nb ndx ned => ?_⟩
    have sB : Same H3 (upd (upd H3 dx (.own b)) b (.ins CL dx [])) := put (put (Same.refl _) ndx) nb
    refine ⟨b, t, dx, ts, rfl, upd_same, sB _ _ ht, hg, fun H4 k4' hb4 => ⟨rfl, ?_⟩⟩
    have s34 : Same H3 H4 := fun y o e => k4' y o (sB _ _ e) (ne_of_none e nb)
    have hL4 : LibAt CL H4 b ts := ⟨t, dx, hb4, s34 _ _ ht⟩
    refine ⟨6, rfl, by decide, by decide, for_range (lo := 0) (n := 6) (fun i σ H' => ∃ v5 v6 v7 v8 v9 v10, σ = [some (.ref h), some (VS x), some (VS y), some (.ref t), some (.ref b), v5, v6, v7, v8, v9, v10] ∧ SH H H' ∧ HandAt H' h cl ∧ LibAt CL H' b ts ∧ H' t = some (.tup (ts.map VS)))
      ⟨_, _, _, _, _, _, rfl, sH3.trans (Same.sh s34), h3.same s34, hL4, s34 _ _ ht⟩ ?_ ?_⟩
    · rintro i σ H5 hi ⟨v5, v6, v7, v8, v9, v10, rfl, s5, h5, L5, t5⟩
      refine ⟨_, rfl, _, _, rfl, .inr ⟨_, SqT.of t5, rfl⟩, _, _, rfl, rfl, by show 2 ≤ sizeLine; decide, fun q hq => ?_⟩
      have sq := put (o := .lst [V.int 0, V.int (((ts.map VS).length : Nat) - 1)]) (Same.refl _) hq
      refine ⟨_, rfl, h, cl, 2, rfl, h5.same sq, by decide, by decide, fun H6 d6 s6 h6 hd6 => ?_⟩
      have q6 := s6 _ _ (upd_same (a := q)) (hd_ints [0, ((ts.map VS).length : Nat) - 1])
      have s56 : SH H5 H6 := (Same.sh sq).trans s6
      obtain ⟨n, hn, han⟩ : ∃ n : Nat, n < ts.length ∧ atI [V.int 0, V.int (((ts.map VS).length : Nat) - 1)] ((d6 : Nat) : Int) = some (.int (n : Nat)) := by
        match d6, hd6 with
        | 0, _ => exact ⟨0, hpos, rfl⟩
        | 1, _ =>
          refine ⟨ts.length - 1, by omega, ?_⟩
          show some (V.int (((ts.map VS).length : Nat) - 1)) = _
          rw [List.length_map, show ((ts.length : Nat) : Int) - 1 = ((ts.length - 1 : Nat) : Int) by omega]
      refine ⟨q, _, _, _, rfl, rfl, SqL.of q6, han, ?_⟩
      have t6 := s56 _ _ t5 (hd_tup _)
      have htx : ts[n]? = some (tx ts n) := by rw [List.getElem?_eq_getElem hn, tx_of (List.getElem?_eq_getElem hn)]
      have hat6 : atI (ts.map VS) ((n : Nat) : Int) = some (VS (tx ts n)) := atI_nat (by rw [List.getElem?_map, htx]; rfl)
      have htl := hg.tx n
      have htS : (Ep.S (tx ts n)).length ≤ sizeLine := by rw [S_len]; exact line2 (by omega)
      have hsx : Sgn (tx ts n) := hg.sgn _ (List.mem_of_getElem? htx)
      refine ⟨_, rfl, _, rfl, t, _, _, _, rfl, rfl, SqT.of t6, hat6, rfl, _, rfl, ?_⟩
      rw [show V.str "" = VS [] from congrArg V.str lit_empty, VS_dec]
      have L6 := L5.sh s56
      refine ite2 (fun z => ?_) (fun z => ⟨_, _, _, _, _, _, rfl, s5.trans s56, h6, L6, t6⟩)
      have hne : tx ts n ≠ [] := by
        intro e
        rw [e] at z
        simp at z
      have hlen0 : 0 < (tx ts n).length := List.length_pos_iff.mpr hne
      -- at, word
      refine ⟨_, rfl, _, rfl, _, rfl, t, _, _, _, rfl, rfl, SqT.of t6, hat6, _, rfl, htS, h, cl, (tx ts n).length, (by show [V.ref h, V.int ((Ep.S (tx ts n)).length : Nat)] = _; rw [S_len]), h6, hlen0, by omega, fun H7 at_ s7 h7 hat7 => ?_⟩
      have t7 := s7 _ _ t6 (hd_tup _)
      refine ⟨_, rfl, _, rfl, t, _, _, _, rfl, rfl, SqT.of t7, hat6, _, rfl, _, rfl, _, rfl, _, _, rfl, rfl, _, rfl, by show 2 ≤ sizeLine; decide, fun q2 hq2 => ?_⟩
      have sq2 := put (o := .lst [V.int 3, V.int 90]) (Same.refl _) hq2
      refine ⟨_, rfl, h, cl, 2, rfl, h7.same sq2, by decide, by decide, fun H8 d8 s8 h8 hd8 => ?_⟩
      have q8 := s8 _ _ (upd_same (a := q2)) (hd_ints [3, 90])
      obtain ⟨m8, hm8, ha8⟩ : ∃ m : Nat, (0 < m ∧ m ≤ 90) ∧ atI [V.int 3, V.int 90] ((d8 : Nat) : Int) = some (.int (m : Nat)) := by
        match d8, hd8 with
        | 0, _ => exact ⟨3, by decide, rfl⟩
        | 1, _ => exact ⟨90, by decide, rfl⟩
      refine ⟨q2, _, _, _, rfl, rfl, SqL.of q8, ha8, h, cl, m8, rfl, h8, hm8.1, by omega, fun H9 d9 s9 h9 hd9 => ?_⟩
      have s69 : SH H6 H9 := ((s7.trans (Same.sh sq2)).trans s8).trans s9
      have ew : cutS (Ep.S (tx ts n)) (some ((at_ : Nat) : Int)) (some (((at_ : Nat) : Int) + 1 + ((d9 : Nat) : Int))) = Ep.S (cut (tx ts n) at_ (at_ + 1 + d9)) := by
        rw [show ((at_ : Nat) : Int) + 1 + ((d9 : Nat) : Int) = ((at_ + 1 + d9 : Nat) : Int) by omega, cut_both]
        rfl
      refine ⟨_, _, rfl, rfl, _, rfl, _, rfl, htS, ?_⟩
      generalize hz : cut (tx ts n) at_ (at_ + 1 + d9) = z at ew
      have hzl : 0 < z.length ∧ z.length ≤ 2000 := by rw [← hz, cut_len]; omega
      have hzne : z ≠ [] := List.length_pos_iff.mp hzl.1
      have hzs : Sgn z := sgn_sub hsx fun c hc => by rw [← hz] at hc; exact mem_part hc
      have hocc : occ ts z ≠ [] := ne_occ (p := (n, at_)) ((mem_occ' hzne).mpr (by
        rw [← hz]
        unfold suf cut
        rw [List.drop_take]
        exact List.take_prefix _ _))
      have t9 := s69 _ _ t6 (hd_tup _)
      have L9 := L6.sh s69
      have s59 := s5.trans (s56.trans s69)
      refine ⟨_, rfl, _, rfl, _, rfl, t, ts, z, congrArg (fun v => [V.ref t, V.str v]) ew, t9, hg, hzne, hzl.2, fun H10 l10 s10 p10 => ?_⟩
      refine ⟨_, rfl, t, l10, ts, z, congrArg (fun v => [V.ref t, V.ref l10, V.str v]) ew, s10 _ _ t9, hg, p10, hzne, hocc, fun H11 q11 g kk s11 e11 G => ?_⟩
      have s911 := s10.trans s11
      refine ⟨q11, _, rfl, SqT.of e11, rfl, _, _, rfl, _, _, rfl, rfl, ?_⟩
      refine ⟨_, rfl, _, rfl, b, ts, z, congrArg (fun v => [V.ref b, V.str v]) ew, L9.same s911, hg, hzs, hzne, hzl.2, fun H12 v12 s12' o12 => ?_⟩
      obtain rfl : v12 = VS g := by
        rcases o12 with ⟨_, h0⟩ | ⟨g', k', rfl, G'⟩
        · exact absurd h0 hocc
        · rw [(G'.one hzne G).1]
      have s912 := s911.trans s12'
      refine ⟨_, rfl, VS g, rfl, .str g, fun H13 s13 => ⟨_, rfl, iteF ?_⟩⟩
      have s913 := s912.trans s13
      refine ⟨_, rfl, _, rfl, b, ts, z, congrArg (fun v => [V.ref b, V.str v]) ew, L9.same s913, hg, hzs, hzne, hzl.2, fun H14 r14 s14 hr14 => ?_⟩
      have s914 := s913.trans s14
      have hr := hr14 g kk G
      refine ⟨_, rfl, _, rfl, rfl, r14, _, rfl, ?_⟩
      have ed : decide (r14 = decide (V.str (cutS (Ep.S (tx ts n)) (some ((at_ : Nat) : Int)) (some (((at_ : Nat) : Int) + 1 + ((d9 : Nat) : Int)))) = VS g)) = true := by
        rw [ew, hr]
        have : decide (VS z = VS g) = decide (g = z) := by
          rw [VS_dec, decide_eq_decide]
          exact eq_comm
        rw [this]
        exact decide_eq_true rfl
      refine ⟨_, rfl, ?_⟩
      rw [ed]
      refine iteF ?_
      refine ⟨_, rfl, _, rfl, b, ts, z, congrArg (fun v => [V.ref b, V.str v]) ew, L9.same s914, hg, hzs, hzne, hzl.2, fun H15 v15 L15 s15 hL15 o15 => ?_⟩
      have s915 := s914.trans s15
      rcases o15 with ⟨_, h0⟩ | ⟨q15, g', k', rfl, e15, G', _⟩
      · exact absurd h0 hocc
      have hk : k' = kk := (G'.one hzne G).2
      refine ⟨q15, _, _, _, rfl, rfl, SqT.of e15, atI_nat (j := 1) rfl, _, rfl, rfl, _, rfl, iteF' (by rw [hk]; simp) ?_⟩
      exact ⟨_, _, _, _, _, _, rfl, s59.trans (Same.sh s915), h9.same s915, L9.same s915, s915 _ _ t9⟩
    · rintro σ H5 ⟨v5, v6, v7, v8, v9, v10, rfl, s5, h5, L5, t5⟩
      exact k _ s5 h5
end
end Ep
end
section
set_option linter.all false
set_option maxRecDepth 100000
/-! EpL11: the law. -/
namespace Ep
open PySem PySem.W PySem.Calls PyProof.Rows L2 EP EpR
def spLaw (K : PySem.W.Frag) : Sp := fun vs H Q _ => ∃ (a : Addr) (ns : List Int), vs = [.ref a] ∧ SqL K H a (ns.map V.int) ∧ ns.length ≤ 63 ∧ ∀ H', Q (.bl true) H'
def six : List Wd := [[122, 122], [97], [98, 97], [97, 97, 98], [126], [97, 98, 97, 98]]
theorem six_eq : ([.str "zz", .str "a", .str "ba", .str "aab", .str "~", .str "abab"] : List V) = six.map VS := by decide +kernel
theorem six_ok : ∀ z ∈ six, z ≠ [] ∧ z.length ≤ 4 ∧ Sgn z := by unfold Sgn; decide +kernel
theorem gone_len {ts : List Wd} {g : Wd} {F : List Nat} (B : IsBeh ts g (cnt ts g) F) : (told F).length ≤ g.length := by
  rw [told_eq]
  have := toldI_len F F.length
  have h2 := B.len
  unfold toldI at this
  omega
section
variable {P : Program} {w : World} {K : PySem.W.Frag} {mg : Str → Option Value} {base : Heap} {CL CM CC : Addr}
abbrev N52 : List Str := ["_law_script", "_law_hand_here", "_law_texts_here", "_law_library", "_law_due", "_law_told", "_law_words", "_law_turn", "_law_word", "_law_number", "_law_longest", "_law_many"]
theorem sc52 : FnScope N52 ["_law_script"] (defScope (top 52)) := ⟨rfl, rfl, rfl, by decide +kernel, rfl, by decide +kernel, by decide +kernel⟩
structure Cs (P : Program) (w : World) (K : PySem.W.Frag) (mg : Str → Option Value) (base : Heap) (CL : Addr) : Prop where
  hand : Cd P w K mg base 1 "_law_hand" (spHand K)
  draw : Cd P w K mg base 1 "_law_draw" spDraw
  long : Cd P w K mg base 9 "_law_long_right" spLong
  texts : Cd P w K mg base 3 "_law_texts" spTexts
  lib : Ci P w K mg base 3 CL "Library" (spLibInit CL)
  cls : Cd P w K mg base 2 "_law_classes" spCls
  isA : Cd P w K mg base 1 "_law_is" spIsA
  isB : Cd P w K mg base 2 "_law_is" spIsB
  isC : Cd P w K mg base 3 "_law_is" spIsC
  least : Cd P w K mg base 2 "_law_least" spLeast
  classOf : Cd P w K mg base 8 "class_of" (spClassOf CL)
  grown : Cd P w K mg base 6 "grown" (spGrown CL)
  leastP : Cd P w K mg base 9 "least_pieces" (spLeastP CL)
/-- what stands from the words on -/
structure St5 (CL : Addr) (H : Hp) (h cl t b dl td wl : Addr) (ts L W : List Wd) (es : List E4) : Prop where
  hand : HandAt H h cl
  lib : LibAt CL H b ts
  tx : H t = some (.tup (ts.map VS))
  due : DuAt H dl ts L
  told : ToAt H td ts L es
  words : H wl = some (.lst (W.map VS))
theorem St5.sh {H H' : Hp} {h cl t b dl td wl : Addr} {ts L W : List Wd} {es : List E4} (s : SH H H') (hh : HandAt H' h cl) (S : St5 CL H h cl t b dl td wl ts L W es) : St5 CL H' h cl t b dl td wl ts L W es :=
  ⟨hh, S.lib.sh s, s _ _ S.tx (hd_tup _), S.due.sh s, S.told.sh s, s _ _ S.words (hd_strs _)⟩
theorem St5.same {H H' : Hp} {h cl t b dl td wl : Addr} {ts L W : List Wd} {es : List E4} (s : Same H H') (S : St5 CL H h cl t b dl td wl ts L W es) : St5 CL H' h cl t b dl td wl ts L W es := S.sh (Same.sh s) (S.hand.same s)
theorem ok_law {f : Addr} {fd : FuncData} (T : Txt K mg CL CM CC) (F : Fun K "law" "law" (top 52) f fd) (G : Cs P w K mg base CL) : FnOk P w K mg base CX0 10 f fd ["_law_script"] (spLaw K) := by
  refine F.ok sc52 (fun vs H Q E h => ?_) (fun cdv A outer s H vs Q E hr h => ?_)
  · obtain ⟨a, ns, rfl, _⟩ := h
    rfl
  · obtain ⟨a, ns, rfl, ha, hl, k⟩ := h
    have hu := hu_of hr
    -- the three loops
    obtain ⟨t6, ht6, rest6⟩ : ∃ tt, PSs (cxOf CX0 P w K mg base N52 "law" (defScope (top 52)) f cdv A outer s H E).nox ((defBody (top 52)).drop 6) tt ∧
        ∀ (h cl t b dl td wl : Addr) (ts L W : List Wd) (es : List E4) (H1 : Hp), Good ts → IsLong ts L → (∀ z, z ∈ W ↔ z ∈ es.map Prod.fst) → W.length ≤ 4000 → L.length ≤ 4000 → St5 CL H1 h cl t b dl td wl ts L W es →
          tt { nx := fun _ H' => Q .non H', rt := Q } [some (.ref a), some (.ref h), some (.ref t), some (.ref b), some (.ref dl), some (.ref td), some (.ref wl), none, none, none, none, none] H1 := by
      refine ⟨_, pss_cons (ps_for PassesOwn.never rfl (pi_range1 (by rfl) T.range (pa_cons (pe_callB (call_min2 rfl) (by rfl) T.min (by decide +kernel) (pa_cons (pe_len T.len (pv 6)) (pa_cons pe_int pa_nil))) pa_nil)) (pg_name (i := 7) sc52.nd rfl (Or.inl rfl))
          (pss_cons (ps_set (i := 8) sc52.nd rfl (Or.inl rfl) (pe_ix ix_list (pv 6) (pe_cd G.draw hr (by decide) (by rfl) (pa_cons (pv 1) (pa_cons (pe_len T.len (pv 6)) pa_nil))) (fun _ _ => rfl)))
          (pss_one (ps_if (PW.pt (pw_or (pt_not (pt_val (pe_cd G.isB hr (by decide) (by rfl) (pa_cons (pe_cd G.classOf hr (by decide) (by rfl) (pa_cons (pv 3) (pa_cons (pv 8) pa_nil))) (pa_cons (pe_dget hu (pv 5) (pv 8) (fun _ _ => rfl)) pa_nil)))))
              (pw_or1 (pt_not (pt_val (pe_cd G.isA hr (by decide) (by rfl) (pa_cons (pe_cd G.grown hr (by decide) (by rfl) (pa_cons (pv 3) (pa_cons (pv 8) pa_nil))) (pa_cons (pe_ix ix_tup (pe_ix ix_list (pv 4) (pe_ix ix_tup (pe_dget hu (pv 5) (pv 8) (fun _ _ => rfl)) pe_int (fun _ _ => rfl)) (fun _ _ => rfl)) pe_int (fun _ _ => rfl)) pa_nil)))))))) (pss_one ps_never) pss_nil))))
        (pss_cons (ps_for PassesOwn.never rfl (pi_list (pe_lst (pa_cons pe_str (pa_cons pe_str (pa_cons pe_str (pa_cons pe_str (pa_cons pe_str (pa_cons pe_str pa_nil)))))))) (pg_name (i := 8) sc52.nd rfl (Or.inl rfl))
          (pss_one (ps_if (PW.pt (pw_and (pt_cmp (pc_dnotin hu (pv 8) (pv 5))) (pw_and1 (PW.pt (pw_or (pt_cmpR op_notN (pe_cd G.classOf hr (by decide) (by rfl) (pa_cons (pv 3) (pa_cons (pv 8) pa_nil))) pe_non (nomark _)) (pw_or1 (pt_cmpR op_notN (pe_cd G.grown hr (by decide) (by rfl) (pa_cons (pv 3) (pa_cons (pv 8) pa_nil))) pe_non (nomark _)))))))) (pss_one ps_never) pss_nil)))
        (pss_cons (ps_for PassesOwn.never rfl (pi_range1 (by rfl) T.range (pa_cons (pe_callB (call_min2 rfl) (by rfl) T.min (by decide +kernel) (pa_cons (pe_len T.len (pv 4)) (pa_cons pe_int pa_nil))) pa_nil)) (pg_name (i := 7) sc52.nd rfl (Or.inl rfl))
          (pss_cons (ps_set (i := 9) sc52.nd rfl (Or.inl rfl) (pe_cd G.draw hr (by decide) (by rfl) (pa_cons (pv 1) (pa_cons (pe_len T.len (pv 4)) pa_nil))))
          (pss_cons (ps_asg (pe_ix ix_list (pv 4) (pv 9) (fun _ _ => rfl)) (pg_tup rfl (pgs_cons (pg_name (i := 10) sc52.nd rfl (Or.inl rfl)) (pgs_cons (pg_name (i := 11) sc52.nd rfl (Or.inl rfl)) pgs_nil))))
          (pss_one (ps_if (PW.pt (pw_and (pt_cmpR op_lt (pe_lens T.len (pv 10)) pe_int (nomark _)) (pw_and1 (pt_not (pt_val (pe_cd G.isC hr (by decide) (by rfl) (pa_cons (pe_cd G.leastP hr (by decide) (by rfl) (pa_cons (pv 3) (pa_cons (pv 9) pa_nil))) (pa_cons (pe_cd G.least hr (by decide) (by rfl) (pa_cons (pv 2) (pa_cons (pv 10) (pa_cons (pv 11) pa_nil)))) pa_nil)))))))) (pss_one ps_never) pss_nil)))))
        (pss_one (ps_ret pe_bl)))), ?_⟩
      intro h cl t b dl td wl ts L W es H1 hg hL hW lW lL S1
      have keysz : ∀ z ∈ W, z ≠ [] ∧ occ ts z ≠ [] ∧ Sgn z ∧ z.length ≤ 2000 := fun z hz => by
        obtain ⟨k1, k2⟩ := (S1.told.mem z).mp ((hW z).mp hz)
        obtain ⟨p, hp⟩ := occ_ne k2
        have h1 := mem_occ.mp hp
        have htx : tx ts p.1 ∈ ts := by
          have h2 := in_few h1.1
          rw [tx_of (List.getElem?_eq_getElem h2)]
          exact List.getElem_mem h2
        refine ⟨k1, k2, fun c hc => hg.sgn _ htx c ?_, Nat.le_trans h1.2.length_le (suf_le hg _)⟩
        exact List.mem_of_mem_drop (h1.2.subset hc)
      have emin : ∀ n : Nat, (if (40 : Int) < (n : Nat) then (40 : Int) else (n : Nat)) = ((min n 40 : Nat) : Int) := fun n => by
        by_cases h : (40 : Int) < (n : Nat)
        · rw [if_pos h]; omega
        · rw [if_neg h]; omega
      have emin4 : ∀ n : Nat, (if (4 : Int) < (n : Nat) then (4 : Int) else (n : Nat)) = ((min n 4 : Nat) : Int) := fun n => by
        by_cases h : (4 : Int) < (n : Nat)
        · rw [if_pos h]; omega
        · rw [if_neg h]; omega
      refine ⟨_, rfl, _, _, rfl, .inl ⟨_, SqL.of S1.words, rfl⟩, _, _, rfl, ?_⟩
      rw [List.length_map, emin]
      refine ⟨_, rfl, by omega, by omega, ?_⟩
      rw [Int.toNat_natCast]
      refine for_range (lo := 0) (n := min W.length 40) (fun i σ H' => ∃ v7 v8, σ = [some (.ref a), some (.ref h), some (.ref t), some (.ref b), some (.ref dl), some (.ref td), some (.ref wl), v7, v8, none, none, none] ∧ St5 CL H' h cl t b dl td wl ts L W es) ⟨_, _, rfl, S1⟩ ?_ ?_
      · rintro i σ H2 hi ⟨v7, v8, rfl, S2⟩
        have hWp : 0 < W.length := by omega
        refine ⟨_, rfl, _, rfl, _, rfl, _, _, rfl, .inl ⟨_, SqL.of S2.words, rfl⟩, h, cl, W.length, by rw [List.length_map]; rfl, S2.hand, hWp, by omega, fun H3 d s3 h3 hd => ?_⟩
        have S3 := S2.sh s3 h3
        have hz : W[d]? = some (W[d]'hd) := List.getElem?_eq_getElem hd
        generalize W[d]'hd = z at hz
        have hzW := List.mem_of_getElem? hz
        obtain ⟨zne, zocc, zsg, zl⟩ := keysz z hzW
        refine ⟨wl, _, _, VS z, rfl, rfl, SqL.of S3.words, atI_nat (j := d) (by rw [List.getElem?_map, hz]; rfl), ?_⟩
        obtain ⟨e, he, rfl⟩ := List.mem_map.mp ((hW z).mp hzW)
        have hG := S3.told.gr e he
        refine ⟨_, rfl, _, rfl, b, ts, e.1, rfl, S3.lib, hg, zsg, zne, zl, fun H4 v4 L4 s4 hL4 o4 => ?_⟩
        obtain rfl : L4 = L := hL4.one hL
        rcases o4 with ⟨_, h0⟩ | ⟨q4, g4, k4, rfl, e4, G4, hg4⟩
        · exact absurd h0 zocc
        obtain ⟨rfl, rfl⟩ := G4.one zne hG
        have S4 := S3.same s4
        have hv := encE_mem (by rw [wa_fst]; exact S4.told.nd) (List.mem_map.mpr ⟨e, he, rfl⟩ : (e.1, e.2.1) ∈ es.map wa)
        have gd : ∀ {Hx : Hp}, St5 CL Hx h cl t b dl td wl ts L4 W es → DGet Hx td (kV (kT e.1)) (some (.ref e.2.1)) := fun {Hx} Sx => by
          have := DGet.k (k := kT e.1) Sx.told.at_
          rw [hv] at this
          exact this
        refine ⟨_, rfl, _, rfl, td, _, rfl, gd S4, q4, e.2.1, _, _, rfl, e4, S4.told.tup e he, fun H5 s5 => ⟨_, rfl, iteF ?_⟩⟩
        have S5 := S4.same s5
        refine ⟨_, rfl, _, rfl, b, ts, e.1, rfl, S5.lib, hg, zsg, zne, zl, fun H6 v6 s6 o6 => ?_⟩
        have S6 := S5.same s6
        rcases o6 with ⟨_, h0⟩ | ⟨g6, k6, rfl, G6⟩
        · exact absurd h0 zocc
        obtain ⟨rfl, rfl⟩ := G6.one zne hG
        obtain ⟨zs, d1, d2, d3⟩ := S6.due.ex
        obtain ⟨r1, r2⟩ := rk_get hg4
        have ej : ((rk L4 e.2.2.1).toNat : Int) = rk L4 e.2.2.1 := Int.toNat_of_nonneg r2
        obtain ⟨y, hy, hy2⟩ := at_map (by rw [d2]; exact r1 : (zs.map Prod.snd)[(rk L4 e.2.2.1).toNat]? = some e.2.2.1)
        refine ⟨_, rfl, _, rfl, _, rfl, td, _, rfl, gd S6, e.2.1, _, _, _, rfl, rfl, SqT.of (S6.told.tup e he), atI_nat (j := 0) rfl, dl, _, _, .ref y.1, rfl, rfl, SqL.of d1, ?_, y.1, _, _, VS e.2.2.1, rfl, rfl, SqT.of (d3 y (List.mem_of_getElem? hy)), ?_, VS e.2.2.1, rfl, .str _, fun H7 s7 => ⟨_, rfl, iteF ?_⟩⟩
        · rw [← ej]
          exact atI_nat (by rw [List.getElem?_map, hy]; rfl)
        · rw [hy2]
          exact atI_nat (j := 0) rfl
        · exact ⟨_, _, rfl, S6.same s7⟩
      rintro σ H2 ⟨v7, v8, rfl, S2⟩
      -- words that stand nowhere
      refine ⟨by show 6 ≤ sizeLine; decide, fun q hq => ?_⟩
      rw [six_eq]
      have S3 := S2.same (put (o := .lst (six.map VS)) (Same.refl _) hq)
      refine ⟨q, rfl, ⟨_, SqL.of upd_same⟩, for_list (K := K) (a := q) (xs := six.map VS) (fun i σ H' => ∃ v7 v8, σ = [some (.ref a), some (.ref h), some (.ref t), some (.ref b), some (.ref dl), some (.ref td), some (.ref wl), v7, v8, none, none, none] ∧ St5 CL H' h cl t b dl td wl ts L W es ∧ H' q = some (.lst (six.map VS))) ⟨_, _, rfl, S3, upd_same⟩ (fun i σ H' _ ⟨_, _, _, _, q⟩ => SqL.of q) ?_ ?_⟩
      · rintro i x σ H4 hx ⟨v7, v8, rfl, S4, q4⟩
        obtain ⟨z, hz, rfl⟩ := at_map hx
        obtain ⟨z1, z2, z3⟩ := six_ok z (List.mem_of_getElem? hz)
        refine ⟨_, rfl, _, rfl, td, _, rfl, DGet.k (k := kT z) S4.told.at_, _, rfl, ?_⟩
        cases hv : valV (encE (es.map wa)) (kT z) with
        | some v =>
          refine iteF ?_
          exact ⟨_, _, rfl, S4, q4⟩
        | none =>
          refine iteT ?_
          have hno := encE_none hv
          rw [wa_fst, S4.told.mem z] at hno
          have h0 : occ ts z = [] := Decidable.byContradiction fun e => hno ⟨z1, e⟩
          refine ⟨_, rfl, _, rfl, b, ts, z, rfl, S4.lib, hg, z3, z1, by omega, fun H5 v5 L5 s5 hL5 o5 => ?_⟩
          obtain rfl : v5 = .non := by
            rcases o5 with ⟨e, _⟩ | ⟨_, _, _, _, _, G5, _⟩
            · exact e
            · exact absurd h0 G5.piece
          refine ⟨rfl, _, rfl, iteF ?_⟩
          have S5 := S4.same s5
          refine ⟨_, rfl, _, rfl, b, ts, z, rfl, S5.lib, hg, z3, z1, by omega, fun H6 v6 s6 o6 => ?_⟩
          obtain rfl : v6 = .non := by
            rcases o6 with ⟨e, _⟩ | ⟨_, _, _, G6⟩
            · exact e
            · exact absurd h0 G6.piece
          refine ⟨rfl, _, rfl, iteF ?_⟩
          exact ⟨_, _, rfl, S5.same s6, s6 _ _ (s5 _ _ q4)⟩
      rintro σ H4 ⟨v7, v8, rfl, S4, _⟩
      obtain ⟨zs, d1, d2, d3⟩ := S4.due.ex
      have hzl : zs.length = L.length := by rw [← d2, List.length_map]
      refine ⟨_, rfl, _, _, rfl, .inl ⟨_, SqL.of d1, rfl⟩, _, _, rfl, ?_⟩
      rw [List.length_map, emin4, hzl]
      refine ⟨_, rfl, by omega, by omega, ?_⟩
      rw [Int.toNat_natCast]
      refine for_range (lo := 0) (n := min L.length 4) (fun i σ H' => ∃ v7 v9 v10 v11, σ = [some (.ref a), some (.ref h), some (.ref t), some (.ref b), some (.ref dl), some (.ref td), some (.ref wl), v7, v8, v9, v10, v11] ∧ St5 CL H' h cl t b dl td wl ts L W es) ⟨_, _, _, _, rfl, S4⟩ ?_ ?_
      · rintro i σ H5 hi ⟨v7, v9, v10, v11, rfl, S5⟩
        have hLp : 0 < L.length := by omega
        obtain ⟨zs, d1, d2, d3⟩ := S5.due.ex
        have hzl : zs.length = L.length := by rw [← d2, List.length_map]
        refine ⟨_, rfl, _, rfl, _, _, rfl, .inl ⟨_, SqL.of d1, rfl⟩, h, cl, L.length, by rw [List.length_map, hzl]; rfl, S5.hand, hLp, by omega, fun H6 n s6 h6 hn => ?_⟩
        have S6 := S5.sh s6 h6
        obtain ⟨zs, d1, d2, d3⟩ := S6.due.ex
        have hgn : L[n]? = some (L[n]'hn) := List.getElem?_eq_getElem hn
        generalize L[n]'hn = g at hgn
        obtain ⟨y, hy, hy2⟩ := at_map (by rw [d2]; exact hgn : (zs.map Prod.snd)[n]? = some g)
        have hyt := d3 y (List.mem_of_getElem? hy)
        rw [hy2] at hyt
        have hlong := (hL.mem g).mp (List.mem_of_getElem? hgn)
        have hgl := long_len hg hlong
        have hgS : (Ep.S g).length ≤ sizeLine := by rw [S_len]; exact line2 (by omega)
        refine ⟨_, rfl, _, rfl, dl, _, _, .ref y.1, rfl, rfl, SqL.of d1, atI_nat (j := n) (by rw [List.getElem?_map, hy]; rfl), y.1, _, rfl, SqT.of hyt, rfl, _, _, rfl, _, _, rfl, rfl, ?_⟩
        refine ⟨_, rfl, _, rfl, hgS, _, _, rfl, rfl, _, rfl, ?_⟩
        rw [S_len]
        refine ite2 (fun q => ?_) (fun q => ⟨_, _, _, _, rfl, S6⟩)
        have q : (g.length : Int) < 13 := of_decide_eq_true q
        refine ⟨_, rfl, _, rfl, b, ts, L, n, g, rfl, S6.lib, hg, hL, hgn, fun H7 l7 F s7 B7 p7 => ?_⟩
        have S7 := S6.same s7
        refine ⟨_, rfl, _, rfl, _, rfl, t, ts, g, rfl, S7.tx, hg, by omega, fun H8 l8 s8 p8 => ?_⟩
        rw [leasts_told B7] at p8
        refine ⟨l7, l8, told F, rfl, p7.same s8, p8, by have := gone_len B7; omega, fun H9 s9 => ⟨_, rfl, iteF ?_⟩⟩
        exact ⟨_, _, _, _, rfl, (S7.same s8).same s9⟩
      · rintro σ H5 ⟨v7, v9, v10, v11, rfl, S5⟩
        exact k H5
    obtain ⟨t2, ht2, rest2⟩ : ∃ tt, PSs (cxOf CX0 P w K mg base N52 "law" (defScope (top 52)) f cdv A outer s H E).nox ((defBody (top 52)).drop 2) tt ∧
        ∀ (h cl : Addr) (H1 : Hp), HandAt H1 h cl → tt { nx := fun _ H' => Q .non H', rt := Q } [some (.ref a), some (.ref h), none, none, none, none, none, none, none, none, none, none] H1 := by
      refine ⟨_, pss_cons (ps_set (i := 2) sc52.nd rfl (Or.inl rfl) (pe_cd G.texts hr (by decide) (by rfl) (pa_cons (pv 1) (pa_cons pe_int pa_nil))))
        (pss_cons (ps_set (i := 3) sc52.nd rfl (Or.inl rfl) (pe_ci G.lib hr (by decide) (by rfl) (pa_cons (pv 2) pa_nil)))
        (pss_cons (ps_asg (pe_cd G.cls hr (by decide) (by rfl) (pa_cons (pv 2) pa_nil)) (pg_tup rfl (pgs_cons (pg_name (i := 4) sc52.nd rfl (Or.inl rfl)) (pgs_cons (pg_name (i := 5) sc52.nd rfl (Or.inl rfl)) pgs_nil))))
        (pss_cons (ps_set (i := 6) sc52.nd rfl (Or.inl rfl) (pe_callB (cr_sortK rfl hr.units) (by rfl) T.sorted (by decide +kernel) (pa_cons (pv 5) pa_nil)))
        ht6))), ?_⟩
      intro h cl H1 h1
      refine ⟨_, rfl, h, cl, rfl, h1, fun H2 t ts s2 h2 t2 hg h20 => ?_⟩
      have t2 : H2 t = some (.tup (ts.map VS)) := t2
      refine ⟨_, rfl, fun b dx nb ndx ned => ?_⟩
      have sB : Same H2 (upd (upd H2 dx (.own b)) b (.ins CL dx [])) := put (put (Same.refl _) ndx) nb
      refine ⟨b, t, dx, ts, rfl, upd_same, sB _ _ t2, hg, fun H3 k3 hb3 => ⟨rfl, ?_⟩⟩
      have s23 : Same H2 H3 := fun y o e => k3 y o (sB _ _ e) (ne_of_none e nb)
      have L3 : LibAt CL H3 b ts := ⟨t, dx, hb3, s23 _ _ t2⟩
      refine ⟨_, rfl, t, ts, rfl, s23 _ _ t2, hg, h20, fun H4 q dl td L es s4 q4 hL du to => ?_⟩
      have s24 := s23.trans s4
      refine ⟨q, _, rfl, SqT.of q4, rfl, _, _, rfl, _, _, rfl, rfl, ?_⟩
      refine ⟨_, rfl, td, _, (es.map Prod.fst).map Ep.S, rfl, .inl to.at_, ?_, fun ys p hp hs np => ?_⟩
      · unfold encE
        simp only [List.map_map]
        rfl
      obtain ⟨W, hW, rfl⟩ := perm_back hp (L := es.map Prod.fst) rfl
      have s5 : Same H4 (upd H4 p (.lst ((W.map Ep.S).map V.str))) := put (Same.refl _) np
      have lW : W.length ≤ 4000 := by
        rw [hW.length_eq, List.length_map]
        exact to.len
      have lL : L.length ≤ 4000 := by
        have := sub_len hL.nodup fun g hg' => (to.mem g).mpr (by have := (hL.mem g).mp hg'; exact ⟨this.ne, this.piece⟩)
        rw [List.length_map] at this
        have := to.len
        omega
      exact rest6 h cl t b dl td p ts L W es _ hg hL (fun z => hW.mem_iff) lW lL ⟨(h2.same s24).same s5, (L3.same s4).same s5, s5 _ _ (s24 _ _ t2), du.same s5, to.same s5, by rw [upd_same, List.map_map]; rfl⟩
    refine ⟨_, pss_cons (ps_set (i := 1) sc52.nd rfl (Or.inl rfl) (pe_cd G.hand hr (by decide) (by rfl) (pa_cons (pv 0) pa_nil)))
      (pss_cons (ps_if (PW.pt (pw_and (pt_cmpR op_eq (pe_cd G.draw hr (by decide) (by rfl) (pa_cons (pv 1) (pa_cons pe_int pa_nil))) pe_int (nomark _)) (pw_and1 (pt_not (pt_val (pe_cd G.long hr (by decide) (by rfl) (pa_cons (pv 1) pa_nil))))))) (pss_one ps_never) pss_nil)
      ht2), ?_⟩
    refine ⟨_, rfl, a, ns, rfl, ha, hl, fun H1 h cl s1 h1 => ?_⟩
    refine ⟨_, rfl, h, cl, 20, rfl, h1, by decide, by decide, fun H2 d s2 h2 hd => ⟨rfl, _, rfl, ?_⟩⟩
    refine ite2 (fun q => ?_) (fun q => rest2 h cl H2 h2)
    exact ⟨_, rfl, h, cl, rfl, h2, fun H3 s3 h3 => ⟨_, rfl, iteF (rest2 h cl H3 h3)⟩⟩
end
end Ep
end
section
set_option linter.all false
set_option maxRecDepth 100000
/-! EpL12: all the defs together; what the top has written. -/
namespace Ep
open PySem PySem.W PySem.Calls PyProof.Rows L2 EP EpR
section
variable {P : Program} {w : World} {K : PySem.W.Frag} {mg : Str → Option Value} {base : Heap} {CL CM CC : Addr}
/-- the defs as the top has them -/
structure Ds (K : PySem.W.Frag) (mg : Str → Option Value) (CL CM CC : Addr) : Prop where
  d10 : Df K mg "is_integer" (top 10) ["thing"]
  d11 : Df K mg "is_within" (top 11) ["thing", "least", "most"]
  d12 : Df K mg "is_below" (top 12) ["thing", "many"]
  d13 : Df K mg "is_sized" (top 13) ["thing", "least", "most"]
  d14 : Df K mg "are_signs" (top 14) ["thing"]
  d15 : Df K mg "is_word" (top 15) ["thing"]
  d16 : Df K mg "check_word" (top 16) ["thing"]
  d19 : Df K mg "first_wrong" (top 19) ["thing"]
  d21 : Df K mg "all_places" (top 21) ["library"]
  d22 : Df K mg "ending_at" (top 22) ["library", "place"]
  d24 : Df K mg "numbered" (top 24) ["keys"]
  d25 : Df K mg "tails_of" (top 25) ["library", "places", "many"]
  d26 : Df K mg "order_of" (top 26) ["library"]
  d27 : Df K mg "common_of" (top 27) ["one", "other"]
  d28 : Df K mg "common_at" (top 28) ["library", "one", "other"]
  d29 : Df K mg "lengths_of" (top 29) ["library", "order"]
  d32 : Df K mg "shorter_first" (top 32) ["words"]
  d34 : Df K mg "class_of" (top 34) ["library", "word"]
  d35 : Df K mg "grown" (top 35) ["library", "word"]
  d36 : Df K mg "checked" (top 36) ["library", "number"]
  d37 : Df K mg "least_pieces" (top 37) ["library", "number"]
  d38 : Df K mg "is_longest" (top 38) ["library", "thing"]
  d40 : Df K mg "_law_places" (top 40) ["_law_texts_here", "_law_word"]
  d41 : Df K mg "_law_hand" (top 41) ["_law_script"]
  d42 : Df K mg "_law_draw" (top 42) ["_law_hand_here", "_law_many"]
  d43 : Df K mg "_law_flag" (top 43) ["_law_told", "_law_due"]
  d44 : Df K mg "_law_text" (top 44) ["_law_hand_here", "_law_most"]
  d45 : Df K mg "_law_texts" (top 45) ["_law_hand_here", "_law_most"]
  d46 : Df K mg "_law_pieces" (top 46) ["_law_texts_here"]
  d47 : Df K mg "_law_grown" (top 47) ["_law_texts_here", "_law_places_here", "_law_word"]
  d48 : Df K mg "_law_classes" (top 48) ["_law_texts_here"]
  d49 : Df K mg "_law_is" (top 49) ["_law_told", "_law_due"]
  d50 : Df K mg "_law_least" (top 50) ["_law_texts_here", "_law_longest", "_law_many"]
  d51 : Df K mg "_law_long_right" (top 51) ["_law_hand_here"]
  dMl : Dm K CM "less" "Maker.less" (inClass (top 31) 1) ["self", "word"]
  dMs : Dm K CM "span" "Maker.span" (inClass (top 31) 2) ["self", "word"]
  dMp : Dm K CM "places" "Maker.places" (inClass (top 31) 3) ["self", "word"]
  dMm : Dm K CM "many" "Maker.many" (inClass (top 31) 4) ["self", "word"]
  dMa : Dm K CM "sign_ahead" "Maker.sign_ahead" (inClass (top 31) 5) ["self", "places"]
  dMb : Dm K CM "grown_behind" "Maker.grown_behind" (inClass (top 31) 6) ["self", "span"]
  dMg : Dm K CM "grown" "Maker.grown" (inClass (top 31) 7) ["self", "word"]
  dMc : Dm K CM "candidates" "Maker.candidates" (inClass (top 31) 8) ["self"]
  dCo : Dm K CC "of_word" "Classes.of_word" (inClass (top 33) 1) ["self", "word"]
  dCl : Dm K CC "least_behinds" "Classes.least_behinds" (inClass (top 33) 2) ["self", "number"]
  dLib : Di K mg CL "Library" "Library.__init__" (inClass (top 20) 0) ["self", "texts"]
  dMi : Di K mg CM "Maker" "Maker.__init__" (inClass (top 31) 0) ["self", "library"]
  dCi : Di K mg CC "Classes" "Classes.__init__" (inClass (top 33) 0) ["self", "library"]
theorem all_cs (T : Txt K mg CL CM CC) (D : Ds K mg CL CM CC) : Cs P w K mg base CL := by
  have gInt : Cd P w K mg base 1 "is_integer" spIsInt := ok_isint T D.d10
  have gWithin : Cd P w K mg base 2 "is_within" spWithin := ok_within T D.d11 gInt
  have gBelow : Cd P w K mg base 3 "is_below" spBelow := ok_below T D.d12 gWithin
  have gSized : Cd P w K mg base 1 "is_sized" spSized := ok_sized T D.d13
  have gSigns : Cd P w K mg base 1 "are_signs" spSigns := ok_signs T D.d14
  have gWord : Cd P w K mg base 2 "is_word" spWord := ok_word T D.d15 gSigns
  have gCheck : Cd P w K mg base 3 "check_word" spCheck := ok_check T D.d16 gWord
  have gWrong : Cd P w K mg base 2 "first_wrong" spWrong := ok_wrong T D.d19 gSigns gSized
  have gLib : Ci P w K mg base 3 CL "Library" (spLibInit CL) := ok_lib T D.dLib gWrong
  have gAll : Cd P w K mg base 1 "all_places" (spAll CL) := ok_all T D.d21
  have gEnd : Cd P w K mg base 1 "ending_at" (spEnd CL) := ok_end T D.d22
  have gNumT : Cd P w K mg base 1 "numbered" spNumT := ok_numT T D.d24
  have gNumP : Cd P w K mg base 1 "numbered" spNumP := ok_numP T D.d24
  have gTails : Cd P w K mg base 1 "tails_of" spTails := ok_tails T D.d25
  have gOrder : Cd P w K mg base 2 "order_of" (spOrder CL) := ok_order T D.d26 gAll gNumT gNumP gTails
  have gCommon : Cd P w K mg base 1 "common_of" spCommon := ok_common T D.d27
  have gComAt : Cd P w K mg base 2 "common_at" (spComAt CL) := ok_comat T D.d28 gCommon gEnd
  have gLens : Cd P w K mg base 3 "lengths_of" (spLens CL) := ok_lens T D.d29 gComAt
  have gMaker : Ci P w K mg base 4 CM "Maker" (spMakInit CL CM) := ok_minit T D.dMi gOrder gLens
  have gLess : Cm P w K mg base 2 CM "less" (spLess CL CM) := ok_less T D.dMl gEnd
  have gSpan : Cm P w K mg base 3 CM "span" (spSpan CL CM) := ok_span T D.dMs gEnd gLess
  have gPlaces : Cm P w K mg base 4 CM "places" (spPlaces CL CM) := ok_places T D.dMp gSpan
  have gMany : Cm P w K mg base 4 CM "many" (spMany CL CM) := ok_many T D.dMm gSpan
  have gAhead : Cm P w K mg base 1 CM "sign_ahead" (spAhead CL CM) := ok_ahead T D.dMa
  have gBehind : Cm P w K mg base 2 CM "grown_behind" (spBehind CL CM) := ok_behind T D.dMb gEnd
  have gMGrown : Cm P w K mg base 4 CM "grown" (spMGrown CL CM) := ok_mgrown T D.dMg gSpan gBehind gAhead
  have gCands : Cm P w K mg base 2 CM "candidates" (spCands CL CM) := ok_cands T D.dMc gEnd
  have gShort : Cd P w K mg base 1 "shorter_first" spShort := ok_short T D.d32
  have gClasses : Ci P w K mg base 6 CC "Classes" (spClsInit CL CM CC) := ok_cinit T D.dCi gMaker gShort gCands gAhead gPlaces
  have gOfWord : Cm P w K mg base 5 CC "of_word" (spOfWord CL CM CC) := ok_ofword T D.dCo gMGrown
  have gLeastB : Cm P w K mg base 5 CC "least_behinds" (spLeastB CL CM CC) := ok_leastb T D.dCl gMany
  have gClassOf : Cd P w K mg base 8 "class_of" (spClassOf CL) := ok_classof T D.d34 gCheck gClasses gOfWord
  have gGrown : Cd P w K mg base 6 "grown" (spGrown CL) := ok_grown T D.d35 gCheck gMaker gMGrown
  have gChecked : Cd P w K mg base 8 "checked" (spChecked CL CM CC) := ok_checked T D.d36 gBelow gClasses
  have gLeastP : Cd P w K mg base 9 "least_pieces" (spLeastP CL) := ok_leastp T D.d37 gChecked gLeastB
  have gIsLongest : Cd P w K mg base 6 "is_longest" (spIsLongest CL) := ok_islongest T D.d38 gWord gMaker gMGrown
  have lPl : Cd P w K mg base 1 "_law_places" spPl := ok_pl T D.d40
  have lHand : Cd P w K mg base 1 "_law_hand" (spHand K) := ok_hand T D.d41
  have lDraw : Cd P w K mg base 1 "_law_draw" spDraw := ok_draw T D.d42
  have lFlag : Cd P w K mg base 1 "_law_flag" spFlag := ok_flag T D.d43
  have lText : Cd P w K mg base 2 "_law_text" spText := ok_text T D.d44 lDraw
  have lTexts : Cd P w K mg base 3 "_law_texts" spTexts := ok_texts T D.d45 lDraw lText
  have lPcs : Cd P w K mg base 1 "_law_pieces" spPcs := ok_pcs T D.d46
  have lGrown : Cd P w K mg base 1 "_law_grown" spLGrown := ok_lgrown T D.d47
  have lCls : Cd P w K mg base 2 "_law_classes" spCls := ok_cls T D.d48 lPcs lGrown
  have lIsA : Cd P w K mg base 1 "_law_is" spIsA := ok_isA T D.d49
  have lLeast : Cd P w K mg base 2 "_law_least" spLeast := ok_least T D.d50 lPl
  have lLong : Cd P w K mg base 9 "_law_long_right" spLong := ok_long T D.d51 lDraw lText gLib lGrown lPl lIsA lFlag gGrown gIsLongest gClassOf
  exact ⟨lHand, lDraw, lLong, lTexts, gLib, lCls, lIsA, ok_isB T D.d49, ok_isC T D.d49, lLeast, gClassOf, gGrown, gLeastP⟩
end
/-! ### from what the top has written -/
section
variable {K : PySem.W.Frag} {h : Heap} {mg : Str → Option Value}
theorem df_mk {x : Str} {st : Stmt} {ps : List Str} {f : Addr} {oc : Value} {od an : Option Addr} {sl : Array (Option Value)} {kV dc pm cd ct : Value} (X : K.In h) (G : h.Ns mainGlobals mg) (a : PySem.W.nsIn K mainGlobals x = some (some (.ref f)))
    (l : K.lookup f = some ⟨oc, od, .func (PySem.W.fnOf x x (defArgs st) (defBody st) (defScope st) .none kV dc pm an cd ct), sl⟩) (c : PySem.W.codeIn K cd x = true) (k : PySem.W.keepIn K (.ref f) = true)
    (hb : ∀ (kV doc pm : Value) (an : Option Addr) (cdv ct : Value) (us : List Value), us.length = ps.length → bindArgs (PySem.W.fnOf x x (defArgs st) (defBody st) (defScope st) .none kV doc pm an cdv ct) ⟨us, []⟩ = pure (ps.zip us)) : Df K mg x st ps :=
  ⟨f, _, fun_mk (st := st) l c k, PySem.W.mg_of X G a, (fun_mk (st := st) l c k).binds hb⟩
theorem dm_mk {C : Addr} {m q : Str} {st : Stmt} {ps : List Str} {f : Addr} {oc : Value} {od an : Option Addr} {sl : Array (Option Value)} {kV dc pm cd ct : Value} (a : PySem.W.findIn K (.ref C) m = some (some (.ref f))) (i : PySem.W.isFn K (.ref f) = true)
    (l : K.lookup f = some ⟨oc, od, .func (PySem.W.fnOf m q (defArgs st) (defBody st) (defScope st) .none kV dc pm an cd ct), sl⟩) (c : PySem.W.codeIn K cd q = true) (k : PySem.W.keepIn K (.ref f) = true)
    (hb : ∀ (kV doc pm : Value) (an : Option Addr) (cdv ct : Value) (us : List Value), us.length = ps.length → bindArgs (PySem.W.fnOf m q (defArgs st) (defBody st) (defScope st) .none kV doc pm an cdv ct) ⟨us, []⟩ = pure (ps.zip us)) : Dm K C m q st ps :=
  ⟨f, _, fun_mk (st := st) l c k, ⟨a, i, k⟩, (fun_mk (st := st) l c k).binds hb⟩
theorem di_mk {C : Addr} {x q : Str} {st : Stmt} {ps : List Str} {f : Addr} {oc : Value} {od an : Option Addr} {sl : Array (Option Value)} {kV dc pm cd ct : Value} (X : K.In h) (G : h.Ns mainGlobals mg) (aC : PySem.W.nsIn K mainGlobals x = some (some (.ref C))) (mk : PySem.W.makesIn K C = true) (kc : PySem.W.keepIn K (.ref C) = true)
    (a : PySem.W.findIn K (.ref C) "__init__" = some (some (.ref f))) (i : PySem.W.isFn K (.ref f) = true)
    (l : K.lookup f = some ⟨oc, od, .func (PySem.W.fnOf "__init__" q (defArgs st) (defBody st) (defScope st) .none kV dc pm an cd ct), sl⟩) (c : PySem.W.codeIn K cd q = true) (k : PySem.W.keepIn K (.ref f) = true)
    (hb : ∀ (kV doc pm : Value) (an : Option Addr) (cdv ct : Value) (us : List Value), us.length = ps.length → bindArgs (PySem.W.fnOf "__init__" q (defArgs st) (defBody st) (defScope st) .none kV doc pm an cdv ct) ⟨us, []⟩ = pure (ps.zip us)) : Di K mg C x q st ps :=
  ⟨f, _, fun_mk (st := st) l c k, ⟨mk, a, i, kc⟩, PySem.W.mg_of X G aC, (fun_mk (st := st) l c k).binds hb⟩
theorem cls_mk {C : Addr} (pg : PySem.W.plainGet K C Str.empty = true) (hd : PySem.W.hasDictIn K C = true) (po : PySem.W.plainOver K C = true) (sa : PySem.W.findIn K (.ref C) "__setattr__" = some (some (.builtin "object.__setattr__"))) : Cls K C := ⟨pg, hd, po, sa⟩
theorem na_mk {C : Addr} {f : Str} (h : PySem.W.findIn K (.ref C) f = some none) : NoAttr K C f := h
theorem law_mk {P : Program} {w : World} {CL CM CC fa f : Addr} {oc : Value} {od an : Option Addr} {sl : Array (Option Value)} {kV dc pm cd ct : Value} (X : K.In h) (G : h.Ns mainGlobals mg) (hfa : mg "law" = some (.ref fa)) (a : PySem.W.nsIn K mainGlobals "law" = some (some (.ref f)))
    (l : K.lookup f = some ⟨oc, od, .func (PySem.W.fnOf "law" "law" (defArgs (top 52)) (defBody (top 52)) (defScope (top 52)) .none kV dc pm an cd ct), sl⟩) (c : PySem.W.codeIn K cd "law" = true) (k : PySem.W.keepIn K (.ref f) = true) (T : Txt K mg CL CM CC) (D : Ds K mg CL CM CC) :
    ∃ fd : FuncData, (∀ (s : Shared) (v : Value), BindsTo s fd ⟨[v], []⟩ [("_law_script", v)]) ∧ ∀ base : Heap, K.In base → base.Ns mainGlobals mg → FnOk P w K mg base CX0 10 fa fd ["_law_script"] (spLaw K) := by
  have e := hfa.symm.trans (PySem.W.mg_of X G a)
  cases e
  exact ⟨PySem.W.fnOf "law" "law" (defArgs (top 52)) (defBody (top 52)) (defScope (top 52)) .none kV dc pm an cd ct, fun s v => .of_eq rfl, fun base _ _ => ok_law T (fun_mk (st := top 52) l c k) (all_cs T D)⟩
theorem walk {l : PySem.W.OpenLaw} {q : Program} {loose : List Str} {XP : (Str → Option Value) → Heap → Prop} {YP : World → Heap → Prop} {d : DefRec} {K : Params → PySem.W.Frag} (hn : l.most = some 63) (hdf : d.params.defaults = [])
    (hY : ∀ (w : World) (h : Heap), YP w h → (K w.params).In h)
    (F : ∀ (w : World) (mg : Str → Option Value) (fa : Addr) (h : Heap), (K w.params).In h → h.Ns mainGlobals mg → mg d.name = some (.ref fa) →
      ∃ fd : FuncData, (∀ (s : Shared) (u : Value), BindsTo s fd ⟨[u], []⟩ [("_law_script", u)]) ∧ ∀ base : Heap, (K w.params).In base → base.Ns mainGlobals mg → FnOk l.prog w (K w.params) mg base CX0 10 fa fd ["_law_script"] (spLaw (K w.params))) :
    PySem.W.WalkO q loose XP YP l.row.toRowW d [] (fun f vs => PySem.call f vs) :=
  L2.walk_of (n := 63) (k := 10) (x := "_law_script") (CX := fun _ => CX0) (sp := fun w => spLaw (K w.params)) hn (by decide) hdf ⟨rfl, by decide, by decide⟩ hY F (fun _ _ a ns hl _ hS => ⟨a, ns, rfl, hS, hl, fun _ => rfl⟩) fun _ _ _ _ _ z => z
end
end Ep
end
open PySem PySem.W PyProof.Rows in
set_option maxRecDepth 100000 in
set_option maxHeartbeats 0 in
theorem PySem.Challenge.cw_everypiece_k27_whole_class_of_each_piece_holds : PySem.Challenge.rw_everypiece_k27_whole_class_of_each_piece.Holds := by
  w_on; o_law; k_head; (case hw => w_witness2)
  k_fill
  refine Ep.walk (l := PySem.Challenge.rw_everypiece_k27_whole_class_of_each_piece) rfl rfl (fun w h Y => PySem.W.kIn_of Y) ?F
  case F =>
    intro w mg fa h KX G hmg
    refine' Ep.law_mk (CL := ?CL) (CM := ?CM) (CC := ?CC) KX G hmg ?aw ?lw ?cw ?kw ⟨PySem.W.mg_none_of KX G ?z_len, PySem.W.mg_none_of KX G ?z_isinstance, PySem.W.mg_none_of KX G ?z_int, PySem.W.mg_none_of KX G ?z_bool, PySem.W.mg_none_of KX G ?z_str, PySem.W.mg_none_of KX G ?z_tuple, PySem.W.mg_none_of KX G ?z_list, PySem.W.mg_none_of KX G ?z_all, PySem.W.mg_none_of KX G ?z_sum, PySem.W.mg_none_of KX G ?z_max, PySem.W.mg_none_of KX G ?z_min, PySem.W.mg_none_of KX G ?z_abs, PySem.W.mg_none_of KX G ?z_enumerate, PySem.W.mg_none_of KX G ?z_range, PySem.W.mg_none_of KX G ?z_zip, PySem.W.mg_none_of KX G ?z_sorted, PySem.W.mg_none_of KX G ?z_set, ⟨_, PySem.W.mg_of KX G ?q1, ?r1⟩, ⟨_, PySem.W.mg_of KX G ?q2, ?r2⟩, ⟨_, PySem.W.mg_of KX G ?q3, ?r3⟩, ⟨_, PySem.W.mg_of KX G ?q4, ?r4⟩, Ep.cls_mk ?pL1 ?pL2 ?pL3 ?pL4, Ep.cls_mk ?pM1 ?pM2 ?pM3 ?pM4, Ep.cls_mk ?pC1 ?pC2 ?pC3 ?pC4, Ep.na_mk ?nT, Ep.na_mk ?nS, Ep.na_mk ?nR, Ep.na_mk ?nC, Ep.na_mk ?nM, Ep.na_mk ?nL, Ep.na_mk ?nN⟩ ⟨Ep.df_mk KX G ?a10 ?l10 ?c10 ?k10 (fun _ _ _ _ _ _ us hl => match us, hl with | [_], _ => rfl), Ep.df_mk KX G ?a11 ?l11 ?c11 ?k11 (fun _ _ _ _ _ _ us hl => match us, hl with | [_, _, _], _ => rfl), Ep.df_mk KX G ?a12 ?l12 ?c12 ?k12 (fun _ _ _ _ _ _ us hl => match us, hl with | [_, _], _ => rfl), Ep.df_mk KX G ?a13 ?l13 ?c13 ?k13 (fun _ _ _ _ _ _ us hl => match us, hl with | [_, _, _], _ => rfl), Ep.df_mk KX G ?a14 ?l14 ?c14 ?k14 (fun _ _ _ _ _ _ us hl => match us, hl with | [_], _ => rfl), Ep.df_mk KX G ?a15 ?l15 ?c15 ?k15 (fun _ _ _ _ _ _ us hl => match us, hl with | [_], _ => rfl), Ep.df_mk KX G ?a16 ?l16 ?c16 ?k16 (fun _ _ _ _ _ _ us hl => match us, hl with | [_], _ => rfl), Ep.df_mk KX G ?a19 ?l19 ?c19 ?k19 (fun _ _ _ _ _ _ us hl => match us, hl with | [_], _ => rfl), Ep.df_mk KX G ?a21 ?l21 ?c21 ?k21 (fun _ _ _ _ _ _ us hl => match us, hl with | [_], _ => rfl), Ep.df_mk KX G ?a22 ?l22 ?c22 ?k22 (fun _ _ _ _ _ _ us hl => match us, hl with | [_, _], _ => rfl), Ep.df_mk KX G ?a24 ?l24 ?c24 ?k24 (fun _ _ _ _ _ _ us hl => match us, hl with | [_], _ => rfl), Ep.df_mk KX G ?a25 ?l25 ?c25 ?k25 (fun _ _ _ _ _ _ us hl => match us, hl with | [_, _, _], _ => rfl), Ep.df_mk KX G ?a26 ?l26 ?c26 ?k26 (fun _ _ _ _ _ _ us hl => match us, hl with | [_], _ => rfl), Ep.df_mk KX G ?a27 ?l27 ?c27 ?k27 (fun _ _ _ _ _ _ us hl => match us, hl with | [_, _], _ => rfl), Ep.df_mk KX G ?a28 ?l28 ?c28 ?k28 (fun _ _ _ _ _ _ us hl => match us, hl with | [_, _, _], _ => rfl), Ep.df_mk KX G ?a29 ?l29 ?c29 ?k29 (fun _ _ _ _ _ _ us hl => match us, hl with | [_, _], _ => rfl), Ep.df_mk KX G ?a32 ?l32 ?c32 ?k32 (fun _ _ _ _ _ _ us hl => match us, hl with | [_], _ => rfl), Ep.df_mk KX G ?a34 ?l34 ?c34 ?k34 (fun _ _ _ _ _ _ us hl => match us, hl with | [_, _], _ => rfl), Ep.df_mk KX G ?a35 ?l35 ?c35 ?k35 (fun _ _ _ _ _ _ us hl => match us, hl with | [_, _], _ => rfl), Ep.df_mk KX G ?a36 ?l36 ?c36 ?k36 (fun _ _ _ _ _ _ us hl => match us, hl with | [_, _], _ => rfl), Ep.df_mk KX G ?a37 ?l37 ?c37 ?k37 (fun _ _ _ _ _ _ us hl => match us, hl with | [_, _], _ => rfl), Ep.df_mk KX G ?a38 ?l38 ?c38 ?k38 (fun _ _ _ _ _ _ us hl => match us, hl with | [_, _], _ => rfl), Ep.df_mk KX G ?a40 ?l40 ?c40 ?k40 (fun _ _ _ _ _ _ us hl => match us, hl with | [_, _], _ => rfl), Ep.df_mk KX G ?a41 ?l41 ?c41 ?k41 (fun _ _ _ _ _ _ us hl => match us, hl with | [_], _ => rfl), Ep.df_mk KX G ?a42 ?l42 ?c42 ?k42 (fun _ _ _ _ _ _ us hl => match us, hl with | [_, _], _ => rfl), Ep.df_mk KX G ?a43 ?l43 ?c43 ?k43 (fun _ _ _ _ _ _ us hl => match us, hl with | [_, _], _ => rfl), Ep.df_mk KX G ?a44 ?l44 ?c44 ?k44 (fun _ _ _ _ _ _ us hl => match us, hl with | [_, _], _ => rfl), Ep.df_mk KX G ?a45 ?l45 ?c45 ?k45 (fun _ _ _ _ _ _ us hl => match us, hl with | [_, _], _ => rfl), Ep.df_mk KX G ?a46 ?l46 ?c46 ?k46 (fun _ _ _ _ _ _ us hl => match us, hl with | [_], _ => rfl), Ep.df_mk KX G ?a47 ?l47 ?c47 ?k47 (fun _ _ _ _ _ _ us hl => match us, hl with | [_, _, _], _ => rfl), Ep.df_mk KX G ?a48 ?l48 ?c48 ?k48 (fun _ _ _ _ _ _ us hl => match us, hl with | [_], _ => rfl), Ep.df_mk KX G ?a49 ?l49 ?c49 ?k49 (fun _ _ _ _ _ _ us hl => match us, hl with | [_, _], _ => rfl), Ep.df_mk KX G ?a50 ?l50 ?c50 ?k50 (fun _ _ _ _ _ _ us hl => match us, hl with | [_, _, _], _ => rfl), Ep.df_mk KX G ?a51 ?l51 ?c51 ?k51 (fun _ _ _ _ _ _ us hl => match us, hl with | [_], _ => rfl), Ep.dm_mk ?aMl ?iMl ?lMl ?cMl ?kMl (fun _ _ _ _ _ _ us hl => match us, hl with | [_, _], _ => rfl), Ep.dm_mk ?aMs ?iMs ?lMs ?cMs ?kMs (fun _ _ _ _ _ _ us hl => match us, hl with | [_, _], _ => rfl), Ep.dm_mk ?aMp ?iMp ?lMp ?cMp ?kMp (fun _ _ _ _ _ _ us hl => match us, hl with | [_, _], _ => rfl), Ep.dm_mk ?aMm ?iMm ?lMm ?cMm ?kMm (fun _ _ _ _ _ _ us hl => match us, hl with | [_, _], _ => rfl), Ep.dm_mk ?aMa ?iMa ?lMa ?cMa ?kMa (fun _ _ _ _ _ _ us hl => match us, hl with | [_, _], _ => rfl), Ep.dm_mk ?aMb ?iMb ?lMb ?cMb ?kMb (fun _ _ _ _ _ _ us hl => match us, hl with | [_, _], _ => rfl), Ep.dm_mk ?aMg ?iMg ?lMg ?cMg ?kMg (fun _ _ _ _ _ _ us hl => match us, hl with | [_, _], _ => rfl), Ep.dm_mk ?aMc ?iMc ?lMc ?cMc ?kMc (fun _ _ _ _ _ _ us hl => match us, hl with | [_], _ => rfl), Ep.dm_mk ?aCo ?iCo ?lCo ?cCo ?kCo (fun _ _ _ _ _ _ us hl => match us, hl with | [_, _], _ => rfl), Ep.dm_mk ?aCl ?iCl ?lCl ?cCl ?kCl (fun _ _ _ _ _ _ us hl => match us, hl with | [_, _], _ => rfl), Ep.di_mk KX G ?oLib ?mLib ?gLib ?aLib ?iLib ?lLib ?cLib ?kLib (fun _ _ _ _ _ _ us hl => match us, hl with | [_, _], _ => rfl), Ep.di_mk KX G ?oMi ?mMi ?gMi ?aMi ?iMi ?lMi ?cMi ?kMi (fun _ _ _ _ _ _ us hl => match us, hl with | [_, _], _ => rfl), Ep.di_mk KX G ?oCi ?mCi ?gCi ?aCi ?iCi ?lCi ?cCi ?kCi (fun _ _ _ _ _ _ us hl => match us, hl with | [_, _], _ => rfl)⟩
    (case oLib => k_is)
    (case oMi => k_is)
    (case oCi => k_is)
    (case aw => k_is)
    (case lw => k_is)
    (case cw => k_is)
    (case kw => k_is)
    (case z_len => k_is)
    (case z_isinstance => k_is)
    (case z_int => k_is)
    (case z_bool => k_is)
    (case z_str => k_is)
    (case z_tuple => k_is)
    (case z_list => k_is)
    (case z_all => k_is)
    (case z_sum => k_is)
    (case z_max => k_is)
    (case z_min => k_is)
    (case z_abs => k_is)
    (case z_enumerate => k_is)
    (case z_range => k_is)
    (case z_zip => k_is)
    (case z_sorted => k_is)
    (case z_set => k_is)
    (case q1 => k_is)
    (case q2 => k_is)
    (case q3 => k_is)
    (case q4 => k_is)
    (case pL1 => k_is)
    (case pL2 => k_is)
    (case pL3 => k_is)
    (case pL4 => k_is)
    (case pM1 => k_is)
    (case pM2 => k_is)
    (case pM3 => k_is)
    (case pM4 => k_is)
    (case pC1 => k_is)
    (case pC2 => k_is)
    (case pC3 => k_is)
    (case pC4 => k_is)
    (case nT => k_is)
    (case nS => k_is)
    (case nR => k_is)
    (case nC => k_is)
    (case nM => k_is)
    (case nL => k_is)
    (case nN => k_is)
    (case a10 => k_is)
    (case l10 => k_is)
    (case c10 => k_is)
    (case k10 => k_is)
    (case a11 => k_is)
    (case l11 => k_is)
    (case c11 => k_is)
    (case k11 => k_is)
    (case a12 => k_is)
    (case l12 => k_is)
    (case c12 => k_is)
    (case k12 => k_is)
    (case a13 => k_is)
    (case l13 => k_is)
    (case c13 => k_is)
    (case k13 => k_is)
    (case a14 => k_is)
    (case l14 => k_is)
    (case c14 => k_is)
    (case k14 => k_is)
    (case a15 => k_is)
    (case l15 => k_is)
    (case c15 => k_is)
    (case k15 => k_is)
    (case a16 => k_is)
    (case l16 => k_is)
    (case c16 => k_is)
    (case k16 => k_is)
    (case a19 => k_is)
    (case l19 => k_is)
    (case c19 => k_is)
    (case k19 => k_is)
    (case a21 => k_is)
    (case l21 => k_is)
    (case c21 => k_is)
    (case k21 => k_is)
    (case a22 => k_is)
    (case l22 => k_is)
    (case c22 => k_is)
    (case k22 => k_is)
    (case a24 => k_is)
    (case l24 => k_is)
    (case c24 => k_is)
    (case k24 => k_is)
    (case a25 => k_is)
    (case l25 => k_is)
    (case c25 => k_is)
    (case k25 => k_is)
    (case a26 => k_is)
    (case l26 => k_is)
    (case c26 => k_is)
    (case k26 => k_is)
    (case a27 => k_is)
    (case l27 => k_is)
    (case c27 => k_is)
    (case k27 => k_is)
    (case a28 => k_is)
    (case l28 => k_is)
    (case c28 => k_is)
    (case k28 => k_is)
    (case a29 => k_is)
    (case l29 => k_is)
    (case c29 => k_is)
    (case k29 => k_is)
    (case a32 => k_is)
    (case l32 => k_is)
    (case c32 => k_is)
    (case k32 => k_is)
    (case a34 => k_is)
    (case l34 => k_is)
    (case c34 => k_is)
    (case k34 => k_is)
    (case a35 => k_is)
    (case l35 => k_is)
    (case c35 => k_is)
    (case k35 => k_is)
    (case a36 => k_is)
    (case l36 => k_is)
    (case c36 => k_is)
    (case k36 => k_is)
    (case a37 => k_is)
    (case l37 => k_is)
    (case c37 => k_is)
    (case k37 => k_is)
    (case a38 => k_is)
    (case l38 => k_is)
    (case c38 => k_is)
    (case k38 => k_is)
    (case a40 => k_is)
    (case l40 => k_is)
    (case c40 => k_is)
    (case k40 => k_is)
    (case a41 => k_is)
    (case l41 => k_is)
    (case c41 => k_is)
    (case k41 => k_is)
    (case a42 => k_is)
    (case l42 => k_is)
    (case c42 => k_is)
    (case k42 => k_is)
    (case a43 => k_is)
    (case l43 => k_is)
    (case c43 => k_is)
    (case k43 => k_is)
    (case a44 => k_is)
    (case l44 => k_is)
    (case c44 => k_is)
    (case k44 => k_is)
    (case a45 => k_is)
    (case l45 => k_is)
    (case c45 => k_is)
    (case k45 => k_is)
    (case a46 => k_is)
    (case l46 => k_is)
    (case c46 => k_is)
    (case k46 => k_is)
    (case a47 => k_is)
    (case l47 => k_is)
    (case c47 => k_is)
    (case k47 => k_is)
    (case a48 => k_is)
    (case l48 => k_is)
    (case c48 => k_is)
    (case k48 => k_is)
    (case a49 => k_is)
    (case l49 => k_is)
    (case c49 => k_is)
    (case k49 => k_is)
    (case a50 => k_is)
    (case l50 => k_is)
    (case c50 => k_is)
    (case k50 => k_is)
    (case a51 => k_is)
    (case l51 => k_is)
    (case c51 => k_is)
    (case k51 => k_is)
    (case aMl => k_is)
    (case iMl => k_is)
    (case lMl => k_is)
    (case cMl => k_is)
    (case kMl => k_is)
    (case aMs => k_is)
    (case iMs => k_is)
    (case lMs => k_is)
    (case cMs => k_is)
    (case kMs => k_is)
    (case aMp => k_is)
    (case iMp => k_is)
    (case lMp => k_is)
    (case cMp => k_is)
    (case kMp => k_is)
    (case aMm => k_is)
    (case iMm => k_is)
    (case lMm => k_is)
    (case cMm => k_is)
    (case kMm => k_is)
    (case aMa => k_is)
    (case iMa => k_is)
    (case lMa => k_is)
    (case cMa => k_is)
    (case kMa => k_is)
    (case aMb => k_is)
    (case iMb => k_is)
    (case lMb => k_is)
    (case cMb => k_is)
    (case kMb => k_is)
    (case aMg => k_is)
    (case iMg => k_is)
    (case lMg => k_is)
    (case cMg => k_is)
    (case kMg => k_is)
    (case aMc => k_is)
    (case iMc => k_is)
    (case lMc => k_is)
    (case cMc => k_is)
    (case kMc => k_is)
    (case aCo => k_is)
    (case iCo => k_is)
    (case lCo => k_is)
    (case cCo => k_is)
    (case kCo => k_is)
    (case aCl => k_is)
    (case iCl => k_is)
    (case lCl => k_is)
    (case cCl => k_is)
    (case kCl => k_is)
    (case mLib => k_is)
    (case gLib => k_is)
    (case aLib => k_is)
    (case iLib => k_is)
    (case lLib => k_is)
    (case cLib => k_is)
    (case kLib => k_is)
    (case mMi => k_is)
    (case gMi => k_is)
    (case aMi => k_is)
    (case iMi => k_is)
    (case lMi => k_is)
    (case cMi => k_is)
    (case kMi => k_is)
    (case mCi => k_is)
    (case gCi => k_is)
    (case aCi => k_is)
    (case iCi => k_is)
    (case lCi => k_is)
    (case cCi => k_is)
    (case kCi => k_is)
    (case r1 => exact ⟨_, rfl⟩)
    (case r2 => exact ⟨_, rfl⟩)
    (case r3 => exact ⟨_, rfl⟩)
    (case r4 => exact ⟨_, rfl⟩)
