import PyProof.Rows.All
import Wide.All
import OpenK.AllK
import Wide.FinOn
import HandS.ForMost
import HandS.Evl
import HandS.StrMore
import HandS.IsInst
import HandS.Style
import HandS.Walk
import HandS.Wide
import KE.GoesEnum
import KE.KRevSl
import PySem.Challenge.RW_firstword_k02_whole_waits
namespace Fw
abbrev Wd := List Nat

/-! ### first letters at the end -/
theorem suf_len {a b : Wd} (h : a <:+ b) : a.length ≤ b.length := h.length_le
theorem suf_of {a b t : Wd} (ha : a <:+ t) (hb : b <:+ t) (h : a.length ≤ b.length) : a <:+ b := List.suffix_of_suffix_length_le ha hb h
theorem take_len {w : Wd} {k : Nat} (h : k ≤ w.length) : (w.take k).length = k := by
  rw [List.length_take]; omega
theorem take_more {α : Type} {w : List α} {k : Nat} {c : α} (h : w[k]? = some c) : w.take (k + 1) = w.take k ++ [c] := by
  rw [List.take_add_one, h]; rfl
theorem get_some {α : Type} {w : List α} {k : Nat} (h : k < w.length) : ∃ c, w[k]? = some c := ⟨w[k], List.getElem?_eq_getElem h⟩
theorem snoc_suf {a b : Wd} {c d : Nat} : a ++ [c] <:+ b ++ [d] ↔ a <:+ b ∧ c = d := by
  constructor
  · rintro ⟨u, e⟩
    rw [← List.append_assoc] at e
    obtain ⟨e1, e2⟩ := List.append_inj' e rfl
    exact ⟨⟨u, e1⟩, by simpa using e2⟩
  · rintro ⟨⟨u, e⟩, rfl⟩
    exact ⟨u, by rw [← e, List.append_assoc]⟩
theorem take_snoc {w t : Wd} {k c : Nat} (hk : k < w.length) : w.take (k + 1) <:+ t ++ [c] ↔ w.take k <:+ t ∧ w[k]? = some c := by
  obtain ⟨d, hd⟩ := get_some hk
  rw [take_more hd, snoc_suf, hd]
  simp

/-- the most of the first b letters of w that stand at the end of t -/
def lg (w t : Wd) : Nat → Nat
  | 0 => 0
  | k + 1 => if w.take (k + 1) <:+ t then k + 1 else lg w t k
def lng (w t : Wd) : Nat := lg w t w.length
/-- the most of less than k of the first letters that stand at the end of the first k -/
def fail (w : Wd) (k : Nat) : Nat := lg w (w.take k) (k - 1)
/-- the state behind one letter more -/
def nx (w : Wd) (m c : Nat) : Nat := lng w (w.take m ++ [c])

theorem lg_le (w t : Wd) : ∀ b, lg w t b ≤ b
  | 0 => Nat.le_refl _
  | b + 1 => by
    unfold lg; split
    · exact Nat.le_refl _
    · have := lg_le w t b; omega
theorem lg_st (w t : Wd) : ∀ b, w.take (lg w t b) <:+ t
  | 0 => by simp [lg]
  | b + 1 => by
    unfold lg; split
    · assumption
    · exact lg_st w t b
theorem lg_max {w t : Wd} {k : Nat} : ∀ {b}, k ≤ b → w.take k <:+ t → k ≤ lg w t b
  | 0, h, _ => by omega
  | b + 1, h, hs => by
    unfold lg; split
    · exact h
    · rename_i hn
      by_cases e : k = b + 1
      · subst e; exact absurd hs hn
      · exact lg_max (by omega) hs
theorem lg_uniq {w t : Wd} {b r : Nat} (h : r ≤ b) (hs : w.take r <:+ t) (hn : ∀ k, r < k → k ≤ b → ¬ w.take k <:+ t) : lg w t b = r := by
  have h1 := lg_max h hs
  by_cases e : lg w t b = r
  · exact e
  · exact absurd (lg_st w t b) (hn _ (by omega) (lg_le w t b))
theorem lng_le (w t : Wd) : lng w t ≤ w.length := lg_le _ _ _
theorem lng_st (w t : Wd) : w.take (lng w t) <:+ t := lg_st _ _ _
theorem lng_max {w t : Wd} {k : Nat} (h : k ≤ w.length) (hs : w.take k <:+ t) : k ≤ lng w t := lg_max h hs
theorem lng_len (w t : Wd) : lng w t ≤ t.length := by
  have h := suf_len (lng_st w t)
  rw [take_len (lng_le w t)] at h
  exact h
theorem lng_full {w t : Wd} : lng w t = w.length ↔ w <:+ t := by
  constructor
  · intro e
    have h := lng_st w t
    rw [e, List.take_length] at h
    exact h
  · intro h
    have h1 := lng_max (w := w) (t := t) (Nat.le_refl _) (by rw [List.take_length]; exact h)
    have h2 := lng_le w t
    omega
theorem lng_nil (w : Wd) : lng w [] = 0 := by
  have := lng_len w []
  simpa using this
/-- the law looks from the lesser of the two lengths -/
theorem lng_min (w t : Wd) : lg w t (min w.length t.length) = lng w t := by
  refine lg_uniq ?_ ?_ ?_ |>.symm ▸ rfl
  all_goals try exact lng w t
  · have := lng_le w t; have := lng_len w t; omega
  · exact lng_st w t
  · intro k h1 h2 h3
    have := lng_max (by omega) h3
    omega
theorem fail_lt {w : Wd} {k : Nat} (h : 0 < k) : fail w k < k := by
  have := lg_le w (w.take k) (k - 1)
  unfold fail; omega
theorem fail_st (w : Wd) (k : Nat) : w.take (fail w k) <:+ w.take k := lg_st _ _ _
theorem fail_max {w : Wd} {j k : Nat} (h : j < k) (hs : w.take j <:+ w.take k) : j ≤ fail w k := lg_max (by omega) hs
theorem fail_zero (w : Wd) : fail w 0 = 0 := rfl
theorem fail_one (w : Wd) : fail w 1 = 0 := rfl

/-- what stands at the end of t stands at the end of what stands there most -/
theorem st_lng {w t : Wd} {k : Nat} (hk : k ≤ w.length) : w.take k <:+ t ↔ w.take k <:+ w.take (lng w t) := by
  constructor
  · intro h
    refine suf_of h (lng_st w t) ?_
    rw [take_len hk, take_len (lng_le w t)]
    exact lng_max hk h
  · intro h
    exact h.trans (lng_st w t)
theorem lg_congr {w t u : Wd} {b : Nat} (h : ∀ k, k ≤ b → (w.take k <:+ t ↔ w.take k <:+ u)) : lg w t b = lg w u b := by
  refine lg_uniq (lg_le _ _ _) ((h _ (lg_le _ _ _)).mpr (lg_st _ _ _)) fun k h1 h2 h3 => ?_
  have := lg_max h2 ((h k h2).mp h3)
  omega
theorem lng_snoc (w t : Wd) (c : Nat) : lng w (t ++ [c]) = nx w (lng w t) c := by
  refine lg_congr fun k hk => ?_
  cases k with
  | zero => simp
  | succ k =>
    rw [take_snoc (by omega), take_snoc (by omega), st_lng (by omega)]
theorem nx_le (w : Wd) (m c : Nat) : nx w m c ≤ w.length := lng_le _ _

/-! ### the two loops -/
structure Desc (w t : Wd) (c B many : Nat) : Prop where
  lt : many < B
  st : w.take many <:+ t
  no : ∀ k, many < k → k < B → w.take k <:+ t → w[k]? ≠ some c
theorem Desc.step {w t : Wd} {c B many : Nat} (hB : B ≤ w.length) (h : Desc w t c B many) (hp : 0 < many) (hc : w[many]? ≠ some c) : Desc w t c B (fail w many) := by
  have hf := fail_lt (w := w) hp
  refine ⟨by have := h.lt; omega, (fail_st w many).trans h.st, fun k h1 h2 h3 => ?_⟩
  by_cases e : many < k
  · exact h.no k e h2 h3
  · by_cases e2 : k = many
    · subst e2; exact hc
    · have h4 : w.take k <:+ w.take many := suf_of h3 h.st (by rw [take_len (by omega), take_len (by have := h.lt; omega)]; omega)
      have := fail_max (by omega) h4
      omega
theorem Desc.hit {w t : Wd} {c B many : Nat} (hB : B ≤ w.length) (h : Desc w t c B many) (hc : w[many]? = some c) : lg w (t ++ [c]) B = many + 1 := by
  have hlt := h.lt
  refine lg_uniq (by omega) ((take_snoc (by omega)).mpr ⟨h.st, hc⟩) fun k h1 h2 h3 => ?_
  obtain ⟨k, rfl⟩ : ∃ j, k = j + 1 := ⟨k - 1, by omega⟩
  obtain ⟨h4, h5⟩ := (take_snoc (by omega)).mp h3
  exact h.no k (by omega) (by omega) h4 h5
theorem Desc.miss {w t : Wd} {c B : Nat} (hB : B ≤ w.length) (h : Desc w t c B 0) (hc : w[0]? ≠ some c) : lg w (t ++ [c]) B = 0 := by
  refine lg_uniq (Nat.zero_le _) (by simp) fun k h1 h2 h3 => ?_
  obtain ⟨k, rfl⟩ : ∃ j, k = j + 1 := ⟨k - 1, by omega⟩
  obtain ⟨h4, h5⟩ := (take_snoc (by omega)).mp h3
  by_cases e : k = 0
  · subst e; exact hc h5
  · exact h.no k (by omega) (by omega) h4 h5
theorem Desc.of_lt {w : Wd} {m c : Nat} (h : m < w.length) : Desc w (w.take m) c w.length m :=
  ⟨h, List.suffix_refl _, fun k h1 h2 h3 _ => by
    have := suf_len h3
    rw [take_len (by omega), take_len (by omega)] at this
    omega⟩
theorem Desc.of_full {w : Wd} {c : Nat} (h : 0 < w.length) : Desc w (w.take w.length) c w.length (fail w w.length) :=
  ⟨fail_lt h, fail_st w _, fun k h1 h2 h3 _ => by
    have := fail_max h2 h3
    omega⟩
theorem Desc.of_back {w : Wd} {c m : Nat} (h : 0 < m) : Desc w (w.take m) c m (fail w m) :=
  ⟨fail_lt h, fail_st w _, fun k h1 h2 h3 _ => by
    have := fail_max h2 h3
    omega⟩
theorem fail_more {w : Wd} {m c : Nat} (hc : w[m]? = some c) : fail w (m + 1) = lg w (w.take m ++ [c]) m := by
  unfold fail
  rw [take_more hc]; rfl

/-! ### the table of backs -/
/-- fail of 0 .. n, and 0 once more for a word of one letter or none: as the program makes it -/
def backs (w : Wd) : List Nat := (List.range (w.length + 1)).map (fail w)
def backsTo (w : Wd) (n : Nat) : List Nat := (List.range (n + 1)).map (fail w)
theorem backsTo_len (w : Wd) (n : Nat) : (backsTo w n).length = n + 1 := by simp [backsTo]
theorem backsTo_get {w : Wd} {n k : Nat} (h : k ≤ n) : (backsTo w n)[k]? = some (fail w k) := by
  unfold backsTo
  rw [List.getElem?_map, List.getElem?_range (by omega)]; rfl
theorem backsTo_one (w : Wd) : backsTo w 1 = [0, 0] := rfl
theorem backsTo_more (w : Wd) (n : Nat) : backsTo w (n + 1) = backsTo w n ++ [fail w (n + 1)] := by
  unfold backsTo
  rw [List.range_succ, List.map_append]; rfl

/-! ### overlaps -/
/-- the rising list of the counts up to k that are overlaps of w -/
def ovs (w t : Wd) (k : Nat) : List Nat := ((List.range k).map (· + 1)).filter fun j => decide (w.take j <:+ t)
theorem ovs_zero (w t : Wd) : ovs w t 0 = [] := rfl
theorem ovs_more (w t : Wd) (k : Nat) : ovs w t (k + 1) = ovs w t k ++ (if w.take (k + 1) <:+ t then [k + 1] else []) := by
  unfold ovs
  rw [List.range_succ, List.map_append, List.filter_append]
  congr 1
  by_cases h : w.take (k + 1) <:+ t <;> simp [h]
theorem ovs_none {w t : Wd} {j : Nat} : ∀ {k : Nat}, j ≤ k → (∀ i, j < i → i ≤ k → ¬ w.take i <:+ t) → ovs w t k = ovs w t j
  | 0, h, _ => by
    have : j = 0 := by omega
    subst this; rfl
  | k + 1, h, hn => by
    by_cases e : j = k + 1
    · subst e; rfl
    · rw [ovs_more, if_neg (hn _ (by omega) (Nat.le_refl _)), List.append_nil]
      exact ovs_none (by omega) fun i h1 h2 => hn i h1 (by omega)
/-- one turn of overlaps' loop -/
theorem ovs_fail {w : Wd} {k : Nat} (hk : 0 < k) (hkn : k ≤ w.length) (hs : w.take k <:+ w) : ovs w w k = ovs w w (fail w k) ++ [k] := by
  obtain ⟨j, rfl⟩ : ∃ j, k = j + 1 := ⟨k - 1, by omega⟩
  rw [ovs_more, if_pos hs]
  congr 1
  have hf := fail_lt (w := w) hk
  refine ovs_none (by omega) fun i h1 h2 h3 => ?_
  have := fail_max (w := w) (by omega : i < j + 1) (suf_of h3 hs (by rw [take_len (by omega), take_len (by omega)]; omega))
  omega
end Fw

namespace Fw
/-! ### leading numbers -/
/-- the sum of s^j over the counts j up to b of first letters of w that stand at the end of t -/
def lead (s : Int) (w t : Wd) : Nat → Int
  | 0 => 0
  | k + 1 => (if w.take (k + 1) <:+ t then s ^ (k + 1) else 0) + lead s w t k
def led (s : Int) (w t : Wd) : Int := lead s w t w.length

theorem lead_congr {s : Int} {w t u : Wd} : ∀ {b : Nat}, (∀ k, k ≤ b → (w.take k <:+ t ↔ w.take k <:+ u)) → lead s w t b = lead s w u b
  | 0, _ => rfl
  | b + 1, h => by
    unfold lead
    rw [lead_congr fun k hk => h k (by omega)]
    by_cases e : w.take (b + 1) <:+ t
    · rw [if_pos e, if_pos ((h _ (Nat.le_refl _)).mp e)]
    · rw [if_neg e, if_neg fun q => e ((h _ (Nat.le_refl _)).mpr q)]
theorem lead_none {s : Int} {w t : Wd} {j : Nat} : ∀ {b : Nat}, j ≤ b → (∀ k, j < k → k ≤ b → ¬ w.take k <:+ t) → lead s w t b = lead s w t j
  | 0, h, _ => by
    have : j = 0 := by omega
    subst this; rfl
  | b + 1, h, hn => by
    by_cases e : j = b + 1
    · subst e; rfl
    · show (if w.take (b + 1) <:+ t then s ^ (b + 1) else 0) + lead s w t b = _
      rw [if_neg (hn _ (by omega) (Nat.le_refl _)), Int.zero_add]
      exact lead_none (by omega) fun k h1 h2 => hn k h1 (by omega)
theorem lead_nonneg {s : Int} (hs : 0 ≤ s) (w t : Wd) : ∀ b, 0 ≤ lead s w t b
  | 0 => Int.le_refl _
  | b + 1 => by
    have := lead_nonneg hs w t b
    have h2 : 0 ≤ s ^ (b + 1) := Int.pow_nonneg hs
    unfold lead
    split <;> omega
/-- the number of a state by its count -/
def wth (s : Int) (w : Wd) (k : Nat) : Int := lead s w (w.take k) k
theorem wth_zero (s : Int) (w : Wd) : wth s w 0 = 0 := rfl
/-- the program's turn -/
theorem wth_more {s : Int} {w : Wd} {k : Nat} (hk : 0 < k) (hn : k ≤ w.length) : wth s w k = s ^ k + wth s w (fail w k) := by
  obtain ⟨j, rfl⟩ : ∃ j, k = j + 1 := ⟨k - 1, by omega⟩
  have hf := fail_lt (w := w) hk
  unfold wth
  show (if w.take (j + 1) <:+ w.take (j + 1) then s ^ (j + 1) else 0) + lead s w (w.take (j + 1)) j = _
  rw [if_pos (List.suffix_refl _)]
  congr 1
  rw [lead_none (j := fail w (j + 1)) (by omega) fun k h1 h2 h3 => by
    have := fail_max (w := w) (by omega : k < j + 1) h3
    omega]
  refine lead_congr fun k hk => ⟨fun h => ?_, fun h => h.trans (fail_st w _)⟩
  exact suf_of h (fail_st w _) (by rw [take_len (by omega), take_len (by omega)]; exact hk)
/-- the number hangs on the state alone -/
theorem led_wth (s : Int) (w t : Wd) : led s w t = wth s w (lng w t) := by
  unfold led wth
  rw [lead_none (j := lng w t) (lng_le w t) fun k h1 h2 h3 => by
    have := lng_max h2 h3
    omega]
  exact lead_congr fun k hk => st_lng (by have := lng_le w t; omega)
theorem lng_take {w : Wd} {k : Nat} (hk : k ≤ w.length) : lng w (w.take k) = k := by
  refine lg_uniq hk (List.suffix_refl _) fun j h1 h2 h3 => ?_
  have := suf_len h3
  rw [take_len (by omega), take_len hk] at this
  omega
theorem led_take {s : Int} {w : Wd} {k : Nat} (hk : k ≤ w.length) : led s w (w.take k) = wth s w k := by
  rw [led_wth, lng_take hk]

/-! ### sums over letters -/
def sumL (f : Nat → Int) (L : List Nat) : Int := (L.map f).sum
theorem sumL_nil (f : Nat → Int) : sumL f [] = 0 := rfl
theorem sumL_cons (f : Nat → Int) (a : Nat) (L : List Nat) : sumL f (a :: L) = f a + sumL f L := by
  simp [sumL]
theorem sumL_add (f g : Nat → Int) : ∀ L, sumL (fun c => f c + g c) L = sumL f L + sumL g L
  | [] => rfl
  | a :: L => by
    rw [sumL_cons, sumL_cons, sumL_cons, sumL_add f g L]; omega
theorem sumL_sub (f g : Nat → Int) : ∀ L, sumL (fun c => f c - g c) L = sumL f L - sumL g L
  | [] => rfl
  | a :: L => by
    rw [sumL_cons, sumL_cons, sumL_cons, sumL_sub f g L]; omega
theorem sumL_const (x : Int) : ∀ L : List Nat, sumL (fun _ => x) L = L.length * x
  | [] => by simp [sumL]
  | a :: L => by
    rw [sumL_cons, sumL_const x L, List.length_cons]
    have : ((L.length + 1 : Nat) : Int) = (L.length : Int) + 1 := by omega
    rw [this, Int.add_mul]; omega
theorem sumL_congr {f g : Nat → Int} : ∀ {L : List Nat}, (∀ c ∈ L, f c = g c) → sumL f L = sumL g L
  | [], _ => rfl
  | a :: L, h => by
    rw [sumL_cons, sumL_cons, h a (by simp), sumL_congr fun c hc => h c (by simp [hc])]
theorem sumL_zero {f : Nat → Int} {L : List Nat} (h : ∀ c ∈ L, f c = 0) : sumL f L = 0 := by
  rw [sumL_congr h, sumL_const]; omega
/-- one letter alone counts -/
theorem sumL_one {x : Int} {d : Nat} : ∀ {L : List Nat}, L.Nodup → d ∈ L → sumL (fun c => if d = c then x else 0) L = x
  | [], _, h => by simp at h
  | a :: L, hn, h => by
    obtain ⟨h1, h2⟩ := List.nodup_cons.mp hn
    rw [sumL_cons]
    by_cases e : d = a
    · subst e
      rw [if_pos rfl, sumL_zero fun c hc => if_neg fun q => h1 (by rw [q]; exact hc)]
      omega
    · rw [if_neg e, sumL_one h2 (by simpa [e] using h)]
      omega
/-- the letters of so many sides -/
def lets (s : Nat) : List Nat := (List.range s).map (· + 97)
theorem lets_len (s : Nat) : (lets s).length = s := by simp [lets]
theorem lets_nodup (s : Nat) : (lets s).Nodup := by
  unfold lets
  refine List.Pairwise.map _ ?_ (List.nodup_range)
  intro a b h q
  exact h (by omega)
theorem lets_mem {s c : Nat} : c ∈ lets s ↔ 97 ≤ c ∧ c < 97 + s := by
  unfold lets
  rw [List.mem_map]
  constructor
  · rintro ⟨a, h, rfl⟩
    have := List.mem_range.mp h
    omega
  · intro h
    exact ⟨c - 97, List.mem_range.mpr (by omega), by omega⟩
/-- a word over the first s letters -/
def Over (s : Nat) (w : Wd) : Prop := ∀ c ∈ w, 97 ≤ c ∧ c < 97 + s
theorem Over.get {s : Nat} {w : Wd} (h : Over s w) {k c : Nat} (e : w[k]? = some c) : c ∈ lets s :=
  lets_mem.mpr (h c (List.mem_of_getElem? e))

/-- all letters behind a text: the leading number as a game that is fair -/
theorem lead_fair {s : Int} {L : List Nat} (hL : L.Nodup) {w t : Wd} : ∀ {k : Nat}, k < w.length → (∀ c ∈ w, c ∈ L) →
    sumL (fun c => lead s w (t ++ [c]) (k + 1)) L = s * (1 + lead s w t k)
  | 0, hk, hw => by
    obtain ⟨d, hd⟩ := get_some hk
    have e : ∀ c ∈ L, lead s w (t ++ [c]) (0 + 1) = if d = c then s else 0 := fun c _ => by
      unfold lead
      have q : w.take (0 + 1) <:+ t ++ [c] ↔ d = c := by
        rw [take_snoc hk, hd]; simp
      by_cases z : d = c
      · rw [if_pos (q.mpr z), if_pos z]; simp [lead, Int.pow_succ]
      · rw [if_neg fun y => z (q.mp y), if_neg z]; simp [lead]
    rw [sumL_congr e, sumL_one hL (hw d (List.mem_of_getElem? hd))]
    simp [lead]
  | k + 1, hk, hw => by
    obtain ⟨d, hd⟩ := get_some hk
    have ih := lead_fair (s := s) hL (w := w) (t := t) (k := k) (by omega) hw
    have e : ∀ c ∈ L, lead s w (t ++ [c]) (k + 1 + 1) = (if d = c then (if w.take (k + 1) <:+ t then s ^ (k + 1 + 1) else 0) else 0) + lead s w (t ++ [c]) (k + 1) := fun c _ => by
      conv => lhs; unfold lead
      congr 1
      have q : w.take (k + 1 + 1) <:+ t ++ [c] ↔ w.take (k + 1) <:+ t ∧ d = c := by
        rw [take_snoc hk, hd]; simp
      by_cases z : d = c
      · by_cases y : w.take (k + 1) <:+ t
        · rw [if_pos (q.mpr ⟨y, z⟩), if_pos z, if_pos y]
        · rw [if_neg fun r => y (q.mp r).1, if_pos z, if_neg y]
      · rw [if_neg fun r => z (q.mp r).2, if_neg z]
    rw [sumL_congr e, sumL_add, ih, sumL_one hL (hw d (List.mem_of_getElem? hd))]
    have u : lead s w t (k + 1) = (if w.take (k + 1) <:+ t then s ^ (k + 1) else 0) + lead s w t k := rfl
    rw [u]
    by_cases y : w.take (k + 1) <:+ t
    · rw [if_pos y, if_pos y, Int.pow_succ, Int.mul_add, Int.mul_add, Int.mul_add, Int.mul_comm (s ^ (k + 1)) s]
      omega
    · rw [if_neg y, if_neg y]
      simp
theorem led_fair {s : Nat} {w t : Wd} (hw : Over s w) (h0 : 0 < w.length) (hn : ¬ w <:+ t) : sumL (fun c => led s w (t ++ [c])) (lets s) = s + s * led s w t := by
  obtain ⟨n, hn'⟩ : ∃ n, w.length = n + 1 := ⟨w.length - 1, by omega⟩
  have h := lead_fair (s := (s : Int)) (lets_nodup s) (w := w) (t := t) (k := n) (by omega) (fun c hc => lets_mem.mpr (hw c hc))
  unfold led
  rw [hn', h]
  have e : lead (s : Int) w t (n + 1) = lead s w t n := by
    show (if w.take (n + 1) <:+ t then (s : Int) ^ (n + 1) else 0) + lead s w t n = _
    rw [if_neg, Int.zero_add]
    rw [← hn', List.take_length]; exact hn
  rw [e, Int.mul_add]
  omega

/-! ### tables of waiting -/
/-- the told table -/
def tabl (s : Int) (w : Wd) : List Int := (List.range (w.length + 1)).map fun k => wth s w w.length - wth s w k
def at0 (T : List Int) (k : Nat) : Int := T.getD k 0
/-- what [3] asks of a table -/
def IsTab (s : Nat) (w : Wd) (T : List Int) : Prop :=
  T.length = w.length + 1 ∧ at0 T w.length = 0 ∧ ∀ k, k < w.length → (s : Int) * at0 T k = s + sumL (fun c => at0 T (nx w k c)) (lets s)
instance decTab (s : Nat) (w : Wd) (T : List Int) : Decidable (IsTab s w T) := by
  unfold IsTab
  exact inferInstance
theorem tabl_len (s : Int) (w : Wd) : (tabl s w).length = w.length + 1 := by simp [tabl]
theorem tabl_get {s : Int} {w : Wd} {k : Nat} (h : k ≤ w.length) : (tabl s w)[k]? = some (wth s w w.length - wth s w k) := by
  unfold tabl
  rw [List.getElem?_map, List.getElem?_range (by omega)]; rfl
theorem tabl_at {s : Int} {w : Wd} {k : Nat} (h : k ≤ w.length) : at0 (tabl s w) k = wth s w w.length - wth s w k := by
  unfold at0
  rw [List.getD_eq_getElem?_getD, tabl_get h]; rfl
theorem tabl_is {s : Nat} {w : Wd} (hw : Over s w) : IsTab s w (tabl s w) := by
  refine ⟨tabl_len _ _, ?_, fun k hk => ?_⟩
  · rw [tabl_at (Nat.le_refl _)]; omega
  · have e : ∀ c ∈ lets s, at0 (tabl s w) (nx w k c) = wth s w w.length - led s w (w.take k ++ [c]) := fun c _ => by
      rw [tabl_at (nx_le w k c), led_wth]; rfl
    rw [sumL_congr e, sumL_sub, sumL_const, lets_len, led_fair hw (by omega) (fun h => by
      have := suf_len h
      rw [take_len (by omega)] at this
      omega), led_take (by omega), tabl_at (by omega), Int.mul_sub]
    omega
/-- with one more at the first place it is none -/
theorem tabl_not {s : Nat} {w : Wd} (hw : Over s w) (h0 : 0 < w.length) {T : List Int} (hT : IsTab s w T) : ¬ IsTab s w (T.set 0 (at0 T 0 + 1)) := by
  rintro ⟨_, _, h⟩
  have h := h 0 h0
  have hl := hT.1
  have h1 := hT.2.2 0 h0
  obtain ⟨d, hd⟩ := get_some h0
  have e : ∀ c ∈ lets s, at0 (T.set 0 (at0 T 0 + 1)) (nx w 0 c) = at0 T (nx w 0 c) + (1 - if d = c then 1 else 0) := fun c _ => by
    have q : nx w 0 c = if d = c then 1 else 0 := by
      unfold nx
      by_cases z : d = c
      · rw [if_pos z]
        refine lg_uniq h0 ((take_snoc h0).mpr ⟨by simp, by rw [hd, z]⟩) fun k h1 h2 h3 => ?_
        have := suf_len h3
        rw [take_len h2] at this
        simp at this; omega
      · rw [if_neg z]
        refine lg_uniq (Nat.zero_le _) (by simp) fun k h1 h2 h3 => ?_
        have := suf_len h3
        rw [take_len h2] at this
        have k1 : k = 0 + 1 := by simp at this; omega
        subst k1
        have := ((take_snoc h0).mp h3).2
        rw [hd] at this
        exact z (Option.some.inj this)
    rw [q]
    by_cases z : d = c
    · rw [if_pos z, if_pos z]
      have e2 : at0 (T.set 0 (at0 T 0 + 1)) 1 = at0 T 1 := by
        conv => lhs; unfold at0
        rw [List.getD_eq_getElem?_getD, List.getElem?_set_ne (by omega)]
        unfold at0
        rw [List.getD_eq_getElem?_getD]
      rw [e2]
      omega
    · rw [if_neg z, if_neg z]
      have e2 : at0 (T.set 0 (at0 T 0 + 1)) 0 = at0 T 0 + 1 := by
        conv => lhs; unfold at0
        rw [List.getD_eq_getElem?_getD, List.getElem?_set_self (by omega), Option.getD_some]
        all_goals rfl
      rw [e2]
      omega
  rw [sumL_congr e, sumL_add, sumL_sub, sumL_const, lets_len, sumL_one (lets_nodup s) (hw.get hd)] at h
  have e0 : at0 (T.set 0 (at0 T 0 + 1)) 0 = at0 T 0 + 1 := by
    conv => lhs; unfold at0
    rw [List.getD_eq_getElem?_getD, List.getElem?_set_self (by omega)]; rfl
  rw [e0, Int.mul_add] at h
  omega
end Fw

set_option Elab.async false
set_option linter.all false
set_option maxRecDepth 100000
set_option maxHeartbeats 4000000
namespace Fw
open PySem PySem.Spec PyProof.Rows L2 Evl

/-! ### a def of the module that raises nothing, by its name -/
structure Ca (P : Program) (w : World) (K : PySem.W.Frag) (mg : Str → Option Value) (base : Heap) (k : Nat) (x : Str) (sp : Sp) : Prop where
  ex : ∃ (f : Addr) (fd : FuncData) (ps : List Str), FnOk P w K mg base CX0 k f fd ps sp ∧ mg x = some (.ref f) ∧ PySem.W.keepIn K (.ref f) = true ∧ Binds K fd ps []
section
variable {X : Cx} {k j : Nat} {x : Str} {sp : Sp} {p pos : Pos} {e : Expr} {es : List Expr} {t : TA}
theorem pe_ca (c : Ca X.prog X.w X.K X.mg X.base k x sp) (hr : Room j X.A) (ha : PA X (e :: es) t) (hk : k ≤ j := by decide) (hg : Gl X x := by rfl)
    (hdb : (x == ("__debug__" : Str)) = false := by decide) (he : starEach (e :: es) X.env = (false, eval e X.env) :: starEach es X.env := by rfl) (hpl : (backTo pos (starEach es X.env)).any (·.1) = false := by rfl) :
    PE X (.Call (.Name x p) (e :: es) [] pos) (tCall sp [] E0 t) := by
  obtain ⟨f, fd, ps, F, hm, kp, b⟩ := c.ex
  exact pe_call F (hr.mono hk) hg hm kp b .nil pass0 ha hdb he hpl
/-- a constant of the module -/
theorem pe_gcn {x : Str} {v : V} {pos : Pos} (h : ∃ u, X.mg x = some u ∧ RelV v u) (hg : Gl X x := by rfl) (hd : (x == ("__debug__" : Str)) = false := by decide) : PE X (.Name x pos) (tC v) := by
  obtain ⟨u, hm, r⟩ := h
  exact pe_glob hg hm r hd
end

section
variable {X : Cx}
/-- a built-in class as a value -/
theorem pe_ty {x : Str} {pos : Pos} (n : String) (hm : X.mg x = none) (hg : Gl X x := by rfl) (hv : bootBuiltins x = some (.type n) := by decide +kernel) (hn : x ≠ ("__name__" : Str) := by decide) (hd : (x == ("__debug__" : Str)) = false := by decide) : PE X (.Name x pos) (tC (.ty n)) :=
  pe_bltn hg hm hv rfl hn hd
end

/-! ### promises -/
/-- a value is handed back, what is tracked stands -/
def PV (R : List V → Hp → V → Prop) : Sp := fun vs H Q _ => ∃ z, R vs H z ∧ RetV z H Q
/-- a new list is handed back -/
def PL (R : List V → Hp → List V → Prop) : Sp := fun vs H Q _ => ∃ xs, R vs H xs ∧ RetL xs H Q
section
variable {σ : L2.St} {H : Hp} {ta : TA} {te tb : TE} {vs : List V} {E : XK} {z : V} {K : PySem.W.Frag}
theorem ev_pv {R : List V → Hp → V → Prop} (h : EvA ta σ H vs) (hr : ∀ H1, Ex H H1 → R vs H1 z) : Ev (tCall (PV R) [] E ta) σ H z :=
  ev_call h fun H1 e Q q _ => ⟨z, by rw [List.append_nil]; exact hr H1 e, q⟩
theorem el_pl {R : List V → Hp → List V → Prop} {xs : List V} (h : EvA ta σ H vs) (hr : ∀ H1, Ex H H1 → R vs H1 xs) : EvL (tCall (PL R) [] E ta) σ H xs :=
  el_call h fun H1 e Q q _ => ⟨xs, by rw [List.append_nil]; exact hr H1 e, q⟩

/-! ### texts -/
abbrev S (l : List Nat) : Str := ⟨l.toArray⟩
theorem S_len (l : List Nat) : (S l).length = l.length := by simp [Str.length]
theorem S_inj {a b : List Nat} (h : S a = S b) : a = b := by
  have := congrArg (fun z : Str => z.cps.toList) h
  simpa using this
theorem S_eq {a b : List Nat} : decide (V.str (S a) = V.str (S b)) = decide (a = b) := by
  by_cases h : a = b
  · subst h; simp
  · rw [decide_eq_false h, decide_eq_false]
    intro q
    exact h (S_inj (V.str.inj q))
theorem S_app (a b : List Nat) : S a ++ S b = S (a ++ b) := TL.ext_tl (by rw [TL.tl_append])
theorem sl_ok {n : Nat} (h : n ≤ 100000) : n ≤ sizeLine := sz_of h
/-- an int list as values -/
abbrev iV (l : List Int) : List V := l.map V.int
abbrev nI (l : List Nat) : List Int := l.map fun (k : Nat) => (k : Int)

abbrev rLenT : List V → Hp → VK → Prop := fun xs H Q => ∃ z : Str, xs = [.str z] ∧ z.length ≤ sizeLine ∧ Q (.int z.length) H
theorem ev_lenT {z : Str} (h : Ev te σ H (.str z)) (hz : z.length ≤ 100000) : Ev (tCB rLenT (tCons te tNil)) σ H (.int (z.length : Int)) := fun H1 e Q q =>
  h H1 e _ fun H2 e2 => ⟨z, rfl, sl_ok hz, q H2 e2⟩
theorem ev_lenS {w : List Nat} (h : Ev te σ H (.str (S w))) (hz : w.length ≤ 100000) : Ev (tCB rLenT (tCons te tNil)) σ H (.int (w.length : Int)) := by
  have := ev_lenT h (by rw [S_len]; exact hz)
  rw [S_len] at this
  exact this
theorem rv_item {w : List Nat} {k c : Nat} (hz : w.length ≤ 100000) (hc : w[k]? = some c) : RV rIxS (.str (S w)) (.int (k : Int)) H (.str (S [c])) :=
  rv_ixS (by rw [S_len]; exact hz) (atI_nat hc)
/-- item of a list of ints -/
theorem rv_iL {p : Addr} {ns : List Int} {k : Nat} {v : Int} (h : SqL K H p (iV ns)) (hv : ns[k]? = some v) : RV (rIxL K) (.ref p) (.int (k : Int)) H (.int v) :=
  rv_ixL h (atI_nat (by rw [List.getElem?_map, hv]; rfl))
theorem atI_neg1 {α : Type} {xs : List α} {v : α} (h : xs[xs.length - 1]? = some v) (h0 : 0 < xs.length) : atI xs (-1) = some v := by
  unfold atI ixN
  rw [if_neg (by omega), if_pos (by omega)]
  have : ((-1 : Int) + (xs.length : Int)).toNat = xs.length - 1 := by omega
  show xs[((-1 : Int) + (xs.length : Int)).toNat]? = some v
  rw [this]; exact h
theorem rv_iLast {p : Addr} {ns : List Int} {v : Int} (h : SqL K H p (iV ns)) (h0 : 0 < ns.length) (hv : ns[ns.length - 1]? = some v) : RV (rIxL K) (.ref p) (.int (-1)) H (.int v) :=
  rv_ixL h (atI_neg1 (by rw [List.length_map, List.getElem?_map, hv]; rfl) (by rw [List.length_map]; exact h0))
abbrev rAddT : R2 := fun x y H Q => ∃ i j : Str, x = .str i ∧ y = .str j ∧ i.length + j.length ≤ sizeLine ∧ Q (.str (i ++ j)) H
theorem rv_addS {a b : List Nat} (h : a.length + b.length ≤ 100000) : RV rAddT (.str (S a)) (.str (S b)) H (.str (S (a ++ b))) := fun H1 e Q q =>
  ⟨S a, S b, rfl, rfl, sl_ok (by rw [S_len, S_len]; exact h), by rw [S_app]; exact q H1 (Ex.refl H1)⟩
theorem rv_eqS {a b : List Nat} : RV rEq (.str (S a)) (.str (S b)) H (.bl (decide (a = b))) := fun H1 e Q q => ⟨rfl, by rw [S_eq]; exact q H1 (Ex.refl H1)⟩
theorem rv_neS {a b : List Nat} : RV rNe (.str (S a)) (.str (S b)) H (.bl (!decide (a = b))) := fun H1 e Q q => ⟨rfl, by rw [S_eq]; exact q H1 (Ex.refl H1)⟩
theorem one_eq {a b : Nat} : decide (V.str (S [a]) = V.str (S [b])) = decide (a = b) := by
  rw [S_eq]
  simp
theorem rv_eqC {a b : Nat} : RV rEq (.str (S [a])) (.str (S [b])) H (.bl (decide (a = b))) := fun H1 e Q q => ⟨rfl, by rw [one_eq]; exact q H1 (Ex.refl H1)⟩
theorem rv_neC {a b : Nat} : RV rNe (.str (S [a])) (.str (S [b])) H (.bl (!decide (a = b))) := fun H1 e Q q => ⟨rfl, by rw [one_eq]; exact q H1 (Ex.refl H1)⟩
theorem int_eq {a b : Int} : decide (V.int a = V.int b) = decide (a = b) := by
  by_cases h : a = b
  · subst h; simp
  · rw [decide_eq_false h, decide_eq_false]
    intro q
    exact h (V.int.inj q)
theorem rv_eqI {a b : Int} : RV rEq (.int a) (.int b) H (.bl (decide (a = b))) := fun H1 e Q q => ⟨rfl, by rw [int_eq]; exact q H1 (Ex.refl H1)⟩
theorem rv_neI {a b : Int} : RV rNe (.int a) (.int b) H (.bl (!decide (a = b))) := fun H1 e Q q => ⟨rfl, by rw [int_eq]; exact q H1 (Ex.refl H1)⟩

/-! ### slices of texts -/
theorem ev_slT {z : Str} {tl th : TO} {lo hi : Option Int} (h : Ev te σ H (.str z)) (h1 : EvO tl σ H lo) (h2 : EvO th σ H hi) (hz : z.length ≤ 100000) : Ev (tSl rSlS te tl th) σ H (.str (cutS z lo hi)) := fun H1 e Q q =>
  h H1 e _ fun H2 e2 => h1 H2 (e.trans e2) _ fun H3 e3 => h2 H3 ((e.trans e2).trans e3) _ fun H4 e4 => ⟨z, rfl, sl_ok hz, q H4 ((e2.trans e3).trans e4)⟩
theorem cut_to (w : List Nat) (k : Nat) : cutS (S w) none (some (k : Int)) = S (w.take k) := by
  unfold cutS
  rw [HT.sIx_none, S_len, HT.sIx_nat, List.drop_zero, Nat.sub_zero]
  congr 2
  show w.take (min k w.length) = w.take k
  rcases Nat.le_total k w.length with h | h
  · rw [Nat.min_eq_left h]
  · rw [Nat.min_eq_right h, List.take_length, List.take_of_length_le h]
theorem cut_from (w : List Nat) (k : Nat) : cutS (S w) (some (k : Int)) none = S (w.drop k) := by
  unfold cutS
  rw [HT.sIx_none, S_len, HT.sIx_nat]
  congr 2
  show (w.drop (min k w.length)).take (w.length - min k w.length) = w.drop k
  rcases Nat.le_total k w.length with h | h
  · rw [Nat.min_eq_left h, List.take_of_length_le (by rw [List.length_drop]; omega)]
  · rw [Nat.min_eq_right h, List.drop_of_length_le h, List.drop_of_length_le (Nat.le_refl _), List.take_nil]
theorem ev_to {w : List Nat} {th : TO} {k : Nat} (h : Ev te σ H (.str (S w))) (h2 : EvO th σ H (some (k : Int))) (hz : w.length ≤ 100000) : Ev (tSl rSlS te tNoPart th) σ H (.str (S (w.take k))) := by
  rw [← cut_to]
  exact ev_slT h eo_none h2 (by rw [S_len]; exact hz)
theorem ev_from {w : List Nat} {tl : TO} {k : Nat} (h : Ev te σ H (.str (S w))) (h2 : EvO tl σ H (some (k : Int))) (hz : w.length ≤ 100000) : Ev (tSl rSlS te tl tNoPart) σ H (.str (S (w.drop k))) := by
  rw [← cut_from]
  exact ev_slT h h2 eo_none (by rw [S_len]; exact hz)
theorem eo_is {te : TE} {i : Int} {k : Nat} (h : Ev te σ H (.int i)) (e : i = (k : Int)) : EvO (tPart te) σ H (some (k : Int)) := by
  rw [← e]
  exact eo_some h

/-! ### a text times a number -/
theorem rep_cps (a : List Nat) : ∀ n : Nat, (List.replicate n a.toArray).foldl (· ++ ·) #[] = ((List.replicate n a).flatten).toArray := by
  have gen : ∀ (n : Nat) (acc : Array Nat), (List.replicate n a.toArray).foldl (· ++ ·) acc = acc ++ ((List.replicate n a).flatten).toArray := by
    intro n
    induction n with
    | zero => intro acc; simp
    | succ n ih =>
      intro acc
      rw [List.replicate_succ, List.foldl_cons, ih, List.replicate_succ, List.flatten_cons]
      simp
  intro n
  rw [gen]; simp
theorem mul_is (a : List Nat) (n : Nat) : Txt.mul (S a) (n : Int) = S (List.replicate n a).flatten := by
  unfold Txt.mul
  by_cases h : (n : Int) < 1
  · have e : n = 0 := by omega
    subst e
    rw [if_pos h]; rfl
  · rw [if_neg h]
    by_cases h2 : ((n : Int) == 1 || (S a).length == 0) = true
    · rw [if_pos h2]
      rcases Bool.or_eq_true_iff.mp h2 with q | q
      · have e : n = 1 := by
          have := beq_iff_eq.mp q
          omega
        subst e
        simp
      · have e := beq_iff_eq.mp q
        rw [S_len] at e
        have e2 : a = [] := List.length_eq_zero_iff.mp e
        subst e2
        simp
    · rw [if_neg h2]
      show (⟨(List.replicate (n : Int).toNat a.toArray).foldl (· ++ ·) #[]⟩ : Str) = _
      rw [Int.toNat_natCast, rep_cps]
def rMulT : R2 := fun x y H Q => ∃ (z : Str) (i : Int), x = .str z ∧ y = .int i ∧ 0 ≤ i ∧ i ≤ 100000 ∧ z.length * i.toNat ≤ 100000 ∧ Q (.str (Txt.mul z i)) H
theorem op_mulS {X : Cx} : OpR X (binaryOp .Mult) rMulT := by
  intro pins s σ H x y u v Q I rx ry h
  obtain ⟨z, i, rfl, rfl, h0, h1, h2, q⟩ := h
  obtain ⟨t, rfl⟩ := rx
  obtain ⟨t2, rfl⟩ := ry
  refine PySem.SB.mul ⟨?_, fun hi hz q2 => ?_, fun hi hz => ?_⟩ fun t' k => ⟨.str (Txt.mul z i), H, I.tok k, ⟨t', rfl⟩, q⟩
  · rw [decide_eq_false (by omega), decide_eq_false (by omega)]; rfl
  · obtain ⟨n, rfl⟩ := Int.eq_ofNat_of_zero_le h0
    have hn : 1 ≤ n := by omega
    have h3 : z.length ≤ 100000 := Nat.le_trans (by
      have := Nat.le_mul_of_pos_right z.length (show 0 < ((n : Nat) : Int).toNat by omega)
      exact this) h2
    have h4 : (100000 : Int) ≤ (2 ^ 63 - 1) / (n : Int) := by
      refine (Int.le_ediv_iff_mul_le (by omega)).mpr ?_
      omega
    omega
  · show decide (z.length * i.toNat > sizeLine) = false
    exact decide_eq_false (Nat.not_lt.mpr (sl_ok h2))
theorem rv_mulS {a : List Nat} {n : Nat} (h1 : n ≤ 100000) (h2 : a.length * n ≤ 100000) : RV rMulT (.str (S a)) (.int (n : Int)) H (.str (S (List.replicate n a).flatten)) := fun H1 e Q q =>
  ⟨S a, n, rfl, rfl, by omega, by omega, by rw [S_len, Int.toNat_natCast]; exact h2, by rw [mul_is]; exact q H1 (Ex.refl H1)⟩

/-! ### stripping letters -/
theorem strip_none {a b : List Nat} : Txt.stripChars (S a) (S b) = S [] ↔ ∀ c ∈ a, c ∈ b := by
  obtain ⟨l1, l2, l3⟩ := PyProof.Rows.lo_facts (S b).cps.contains (S a)
  obtain ⟨h1, h2, h3, h4⟩ := PyProof.Rows.hi_facts (S b).cps.contains (S a) (PySem.stripLo (S b).cps.contains true (S a)) l1
  have hn := S_len a
  have con : ∀ k c, a[k]? = some c → (S b).cps.contains ((S a).cps.getD k 0) = decide (c ∈ b) := fun k c hc => by
    rw [← PyProof.Rows.getD_list]
    show b.toArray.contains (a.getD k 0) = _
    rw [List.getD_eq_getElem?_getD, hc]
    simp
  show Txt.stripBy (S b).cps.contains true true (S a) = S [] ↔ _
  rw [PyProof.Rows.stripBy_eq]
  generalize PySem.stripLo (S b).cps.contains true (S a) = lo at *
  generalize PySem.stripHi (S b).cps.contains true (S a) lo = hi at *
  have e : Builtin.Str.strSub (S a) lo hi = S [] ↔ hi ≤ lo := by
    constructor
    · intro q
      have q2 : (Builtin.Str.strSub (S a) lo hi).cps.toList.length = 0 := by rw [q]; rfl
      rw [PySem.StrLaws.strSub_toList] at q2
      have q3 : ((a.drop lo).take (hi - lo)).length = 0 := q2
      rw [List.length_take, List.length_drop] at q3
      omega
    · intro q
      refine TL.ext_tl ?_
      show (Builtin.Str.strSub (S a) lo hi).cps.toList = []
      rw [PySem.StrLaws.strSub_toList, show hi - lo = 0 from by omega, List.take_zero]
  rw [e]
  constructor
  · intro q c hc
    obtain ⟨k, hk⟩ := List.mem_iff_getElem?.mp hc
    have hlt := (List.getElem?_eq_some_iff.mp hk).1
    have := con k c hk
    by_cases z : k < lo
    · have y := l2 k z
      rw [this] at y
      exact of_decide_eq_true y
    · have y := h3 k (by omega) (by omega)
      rw [this] at y
      exact of_decide_eq_true y
  · intro q
    rcases l3 with z | z
    · omega
    · by_cases hlt : lo < a.length
      · obtain ⟨c, hc⟩ : ∃ c, a[lo]? = some c := ⟨a[lo], List.getElem?_eq_getElem hlt⟩
        rw [con lo c hc] at z
        exact absurd (q c (List.mem_of_getElem? hc)) (of_decide_eq_false z)
      · omega
theorem ends_is (a b : List Nat) : Txt.endswith (S a) (S b) = decide (b <:+ a) := by
  unfold Txt.endswith
  rw [PySem.StrLaws.subAt_eq, S_len, S_len]
  show (decide (0 + b.length ≤ a.length) && ((a.drop (a.length - b.length)).take b.length == b)) = _
  rw [Nat.zero_add, Bool.eq_iff_iff, Bool.and_eq_true, decide_eq_true_eq, decide_eq_true_eq, beq_iff_eq]
  constructor
  · rintro ⟨h1, h2⟩
    rw [List.take_of_length_le (by rw [List.length_drop]; omega)] at h2
    have h3 := List.take_append_drop (a.length - b.length) a
    rw [h2] at h3
    exact ⟨_, h3⟩
  · rintro ⟨u, rfl⟩
    refine ⟨by rw [List.length_append]; omega, ?_⟩
    rw [List.length_append, Nat.add_sub_cancel, List.drop_left, List.take_length]
theorem in_is (a b : List Nat) : (!(Builtin.Str.occurrences (S a) (S b) 0 (S a).length 1).isEmpty) = decide (b <:+: a) := by
  rw [Bool.eq_iff_iff, PySem.StrLaws.found_iff, decide_eq_true_eq, S_len, S_len]
  constructor
  · rintro ⟨i, h1, h2⟩
    rw [PySem.StrLaws.subAt_eq, S_len] at h2
    have h2 : (a.drop i).take b.length = b := beq_iff_eq.mp h2
    refine ⟨a.take i, (a.drop i).drop b.length, ?_⟩
    rw [List.append_assoc]
    conv => lhs; rw [← h2]
    rw [h2]
    have : (a.drop i).take b.length ++ (a.drop i).drop b.length = a.drop i := List.take_append_drop _ _
    rw [h2] at this
    rw [this, List.take_append_drop]
  · rintro ⟨u, v, rfl⟩
    refine ⟨u.length, by simp only [List.length_append]; omega, ?_⟩
    rw [PySem.StrLaws.subAt_eq, S_len]
    show ((List.drop u.length (u ++ b ++ v)).take b.length == b) = true
    rw [List.append_assoc, List.drop_left, List.take_left, beq_self_eq_true]
end
end Fw

set_option Elab.async false
set_option linter.all false
set_option maxRecDepth 100000
set_option maxHeartbeats 4000000
namespace Fw
open PySem PySem.Spec PyProof.Rows L2 Evl
/-! ### for i, c in enumerate(text) -/
def ItES (x : Str) : It :=
  ⟨fun i _ => i < x.cps.size, fun i H v H' => ∃ T c, v = .ref T ∧ H T = none ∧ H' = upd H T (.tup [.int (i : Nat), .str ⟨#[c]⟩]) ∧ x.cps[i]? = some c, fun i _ => i = x.cps.size⟩
theorem turn_enumS {P : Program} {w : World} {K : PySem.W.Frag} {elts : List Expr} {kk : Nat} {tpos : Pos} (e it : Addr) (x : Str) (t : Tok) :
    Turn P w K (.Tuple elts kk tpos) (ItES x) [e, it] e (fun i h => (∃ old, IsEnum h e it ((i : Nat) : Int) old) ∧ h.IsStrIter it (strIterType x) x t i ∧ e ≠ it) where
  mem := by simp
  obj := fun i h st b hb => by
    obtain ⟨⟨old, he⟩, ⟨o, ho, hc, hd⟩, _⟩ := st
    have e' : b = e ∨ b = it := by simpa using hb
    rcases e' with z | z
    · rw [z]; exact ⟨_, he, fun v q => nomatch q⟩
    · rw [z]; exact ⟨o, ho, fun v q => by rw [hd] at q; cases q⟩
  keep := fun i h h' st k => let ⟨⟨old, he⟩, ⟨o, ho, r⟩, hne⟩ := st; ⟨⟨old, k e (by simp) _ he⟩, ⟨o, k it (by simp) o ho, r⟩, hne⟩
  item := by
    intro X hP hw hK hc i pins s σ H E I hf st hg
    subst hP hw hK
    obtain ⟨⟨old, he⟩, hit, hne⟩ := st
    have hel : e < s.heap.objs.size := Heap.lt_size he
    have hil : it < s.heap.objs.size := by obtain ⟨_, q, _⟩ := hit; exact Heap.lt_size q
    have D := Draws.text (prog := X.prog) (w := X.w) (A := X.A.in1) (I.ok.hd hc) it x t
    refine wpAny_pyNext_enum_itemC D he hit hg hne (by simpa using hne) fun y h' tk hP ho hit' hT hsz hk => ?_
    obtain ⟨c, u, hcx, rfl⟩ := hP
    refine ⟨_, rfl, wpAny_letOwnedTupleGo_enum (s := { s with heap := h', toks := tk + 1 }) ho fun h'' he' sb => ?_⟩
    have hT2 : h''.get? s.heap.objs.size = some { cls := .type "tuple", data := .seq #[.int i tk, .str ⟨#[c]⟩ u] } := (sb.2 _ (Nat.ne_of_gt hel)).trans hT
    have new : ObjOk X.prog X.w (upd H s.heap.objs.size (.tup [.int (i : Nat), .str ⟨#[c]⟩])) h'' s.heap.objs.size (.tup [.int (i : Nat), .str ⟨#[c]⟩]) :=
      ⟨by show 2 ≤ sizeLine; decide, [.int i tk, .str ⟨#[c]⟩ u], .cons ⟨_, rfl⟩ (.cons ⟨_, rfl⟩ .nil), ⟨_, hT2, rfl, _, rfl⟩⟩
    have I1 : Inv X pins σ (upd H s.heap.objs.size (.tup [.int (i : Nat), .str ⟨#[c]⟩])) { s with heap := h'', toks := tk + 1 } :=
      I.turnedNew (ch := [e, it]) (fun b ob hb q => (sb.2 b (fun z => hb (by simp [z]))).trans (hk b ob (fun z => hb (by simp [z])) (fun z => hb (by simp [z])) q)) hf (Nat.le_refl _) new
    refine ⟨.ref s.heap.objs.size, _, I1, rfl, ⟨_, c, rfl, I.hok.fresh (Nat.le_refl _), rfl, hcx⟩, ⟨⟨.str ⟨#[c]⟩ u, ?_⟩, ?_, hne⟩, fun b hb => ?_⟩
    · have e1 : ((i + 1 : Nat) : Int) = (i : Int) + 1 := by omega
      rw [e1]; exact he'
    · obtain ⟨o, q1, q2⟩ := hit'
      exact ⟨o, (sb.2 it (Ne.symm hne)).trans q1, q2⟩
    · have hb' : b < s.heap.objs.size := by
        have e' : b = e ∨ b = it := by simpa using hb
        rcases e' with z | z
        · rw [z]; exact hel
        · rw [z]; exact hil
      rw [upd_ne (Nat.ne_of_lt hb')]
      exact (hf b hb).1
  done := by
    intro X hP hw hK hc i pins s σ H E I hf st hg
    subst hP hw hK
    obtain ⟨⟨old, he⟩, hit, hne⟩ := st
    obtain ⟨f0, f1, f2, f3, f4, f5⟩ := hf it (by simp)
    have D := Draws.text (prog := X.prog) (w := X.w) (A := X.A.in1) (I.ok.hd hc) it x t
    subst hg
    exact wpAny_pyNext_enum_endD D he hit fun h' eb => ⟨rfl, I.turned (t' := s.toks) (fun b o hb q => eb b o hb q) f0 f1 f3 f4 f5⟩
  self := fun A i s Q E st h => let ⟨⟨_, he⟩, _⟩ := st; wpAny_pyIter_enum he h
def iEnS (ta : TA) : TI := fun σ H R => ta σ H fun vs H1 => ∃ x, vs = [.str x] ∧ R (ItES x) H1
theorem pi_enumS {X : Cx} {e : Expr} {ta : TA} {p pos tpos : Pos} {elts : List Expr} {kk : Nat} (hg : Gl X "enumerate") (hm : X.mg "enumerate" = none) (ha : PA X [e] ta) (hs : starEach [e] X.env = [(false, eval e X.env)] := by rfl) :
    PI X (.Tuple elts kk tpos) (.Call (.Name "enumerate" p) [e] [] pos) (iEnS ta) := by
  refine ⟨fun pins s σ H R I h => ?_⟩
  refine Call_ (ld_blt I hg hm boot_enumerate (PyProof.Rows.callWith_type1 (thn (ha.run pos pins s σ H _ I h) fun us s1 ⟨vs, H1, I1, r1, q1⟩ => ?_) hs rfl))
  obtain ⟨x, ex, q⟩ := q1
  subst ex
  cases r1 with
  | cons r rr =>
    cases rr
    obtain ⟨t, rfl⟩ := r
    refine call_enumerate_str fun h' he hit hsz hk => wpAny_pyIter_enum he ?_
    have I2 : Inv X pins σ H1 { s1 with heap := h' } := I1.kept (t' := s1.toks) hk
    refine ⟨s1.heap.objs.size + 1, [s1.heap.objs.size + 1, s1.heap.objs.size], _, _, H1, rfl, I2, turn_enumS (s1.heap.objs.size + 1) s1.heap.objs.size x t, ⟨⟨.none, he⟩, hit, Nat.succ_ne_self _⟩, fun b hb => ?_, q⟩
    have e' : b = s1.heap.objs.size + 1 ∨ b = s1.heap.objs.size := by simpa using hb
    have hle : s1.heap.objs.size ≤ b := by
      rcases e' with z | z
      · rw [z]; exact Nat.le_add_right _ _
      · rw [z]; exact Nat.le_refl _
    exact I1.fpOk hle (I1.hok.fresh hle)
theorem walk_enS {x : Str} : Walk (ItES x) x.cps.size (fun _ => True) (fun i H v H' => ∃ T c, v = .ref T ∧ H T = none ∧ H' = upd H T (.tup [.int (i : Nat), .str ⟨#[c]⟩]) ∧ x.cps[i]? = some c) :=
  ⟨fun i H hi _ => hi, fun H _ => rfl, fun i H x H' hi _ y => y⟩

/-! ### loops over the signs of a text -/
section
variable {K : PySem.W.Frag} {σ : L2.St} {H H' : Hp} {ta tl te : TE} {D : Ends} {tu tz : TS}
theorem cps_get {w : List Nat} {i : Nat} : (S w).cps[i]? = w[i]? := by simp
theorem cps_size (w : List Nat) : (S w).cps.size = w.length := by simp
theorem s_forS {w : List Nat} {j : Nat} (h : Ev tl σ H (.str (S w))) (Pv : Nat → L2.St → Hp → Prop) (h0 : ∀ H1, Ex H H1 → Pv 0 σ H1)
    (hs : ∀ i c σ' H', w[i]? = some c → Pv i σ' H' → tu { D with nx := Pv (i + 1), ct := Pv (i + 1), bk := D.nx } (σ'.set j (some (.str (S [c])))) H') (hd : ∀ σ' H', Pv w.length σ' H' → D.nx σ' H') : tFor (iStr tl) (gName j) tu D σ H :=
  h H (Ex.refl H) _ fun H1 e => ⟨S w, rfl, for_it (walk_str (z := S w)) Pv (h0 H1 e) (fun _ _ _ _ _ => trivial) (fun i x σ' H2 H3 hi p y => by
    obtain ⟨rfl, c, hc, rfl⟩ := y
    exact hs i c σ' _ (by rw [cps_get] at hc; exact hc) p) (fun σ' H2 p => hd σ' H2 (by rw [cps_size] at p; exact p))⟩
theorem q_forS {w : List Nat} {j : Nat} (h : Ev tl σ H (.str (S w))) (Pv : Nat → L2.St → Hp → Prop) (h0 : ∀ H1, Ex H H1 → Pv 0 σ H1)
    (hs : ∀ i c σ' H', w[i]? = some c → Pv i σ' H' → tu { D with nx := Pv (i + 1), ct := Pv (i + 1), bk := tz D } (σ'.set j (some (.str (S [c])))) H') (hd : ∀ σ' H', Pv w.length σ' H' → tz D σ' H') : tSeq (tFor (iStr tl) (gName j) tu) tz D σ H :=
  s_forS (D := { D with nx := tz D }) h Pv h0 hs hd
/-- for i, c in enumerate(text) -/
theorem s_forES {w : List Nat} {i1 i2 : Nat} {ta : TA} (h : EvA ta σ H [.str (S w)]) (Pv : Nat → L2.St → Hp → Prop) (h0 : ∀ H1, Ex H H1 → Pv 0 σ H1)
    (hs : ∀ i c σ' H', w[i]? = some c → Pv i σ' H' → ∀ H2, Ex H' H2 → tu { D with nx := Pv (i + 1), ct := Pv (i + 1), bk := D.nx } ((σ'.set i1 (some (.int (i : Int)))).set i2 (some (.str (S [c])))) H2) (hd : ∀ σ' H', Pv w.length σ' H' → D.nx σ' H') :
    tFor (iEnS ta) (gTup K 2 (gCons (gName i1) (gCons (gName i2) gNil))) tu D σ H :=
  h H (Ex.refl H) _ fun H1 e => ⟨S w, rfl, for_it (walk_enS (x := S w)) Pv (h0 H1 e) (fun _ _ _ _ _ => trivial) (fun i x σ' H2 H3 hi p y => by
    obtain ⟨T, c, rfl, hT, rfl, hc⟩ := y
    exact ⟨T, _, rfl, Or.inl (Or.inl upd_same), rfl, _, _, rfl, _, _, rfl, rfl, hs i c σ' _ (by rw [cps_get] at hc; exact hc) p _ (Ex.new hT)⟩) (fun σ' H2 p => hd σ' H2 (by rw [cps_size] at p; exact p))⟩
theorem q_forES {w : List Nat} {i1 i2 : Nat} {ta : TA} (h : EvA ta σ H [.str (S w)]) (Pv : Nat → L2.St → Hp → Prop) (h0 : ∀ H1, Ex H H1 → Pv 0 σ H1)
    (hs : ∀ i c σ' H', w[i]? = some c → Pv i σ' H' → ∀ H2, Ex H' H2 → tu { D with nx := Pv (i + 1), ct := Pv (i + 1), bk := tz D } ((σ'.set i1 (some (.int (i : Int)))).set i2 (some (.str (S [c])))) H2) (hd : ∀ σ' H', Pv w.length σ' H' → tz D σ' H') :
    tSeq (tFor (iEnS ta) (gTup K 2 (gCons (gName i1) (gCons (gName i2) gNil))) tu) tz D σ H := s_forES (D := { D with nx := tz D }) h Pv h0 hs hd
/-- for i in range(a, b, c), told by its turns -/
theorem s_forR3 {ta : TA} {j : Nat} {lo n c : Int} {m : Nat} (h : EvA ta σ H [.int lo, .int n, .int c]) (hn : RgC lo n c m) (Pv : Nat → L2.St → Hp → Prop) (h0 : ∀ H1, Ex H H1 → Pv 0 σ H1)
    (hs : ∀ (i : Nat) σ' H', i < m → Pv i σ' H' → tu { D with nx := Pv (i + 1), ct := Pv (i + 1), bk := D.nx } (σ'.set j (some (.int (lo + (i : Nat) * c)))) H') (hd : ∀ σ' H', Pv m σ' H' → D.nx σ' H') : tFor (iRng3 ta) (gName j) tu D σ H :=
  h H (Ex.refl H) _ fun H1 e => ⟨lo, n, c, m, rfl, hn, for_rangeC (lo := lo) (c := c) (n := m) Pv (h0 H1 e) hs hd⟩
theorem q_forR3 {ta : TA} {j : Nat} {lo n c : Int} {m : Nat} (h : EvA ta σ H [.int lo, .int n, .int c]) (hn : RgC lo n c m) (Pv : Nat → L2.St → Hp → Prop) (h0 : ∀ H1, Ex H H1 → Pv 0 σ H1)
    (hs : ∀ (i : Nat) σ' H', i < m → Pv i σ' H' → tu { D with nx := Pv (i + 1), ct := Pv (i + 1), bk := tz D } (σ'.set j (some (.int (lo + (i : Nat) * c)))) H') (hd : ∀ σ' H', Pv m σ' H' → tz D σ' H') : tSeq (tFor (iRng3 ta) (gName j) tu) tz D σ H :=
  s_forR3 (D := { D with nx := tz D }) h hn Pv h0 hs hd
/-- a built-in's sum, of a list of ints -/
theorem ev_sum {p : Addr} {ns : List Int} (h : Ev te σ H (.ref p)) (hl : SqL K H p (iV ns)) : Ev (tCB (rSum K) (tCons te tNil)) σ H (.int ns.sum) := fun H1 e Q q =>
  h H1 e _ fun H2 e2 => ⟨p, ns, rfl, ex_l (e.trans e2) hl, q H2 e2⟩
theorem ev_sumN {ns : List Int} (h : EvL te σ H (iV ns)) : Ev (tCB (rSum K) (tCons te tNil)) σ H (.int ns.sum) := fun H1 e Q q =>
  h H1 e _ fun p H2 _ e2 h2 => ⟨p, ns, rfl, sq_of h2, q H2 e2⟩
theorem ev_allN {bs : List Bool} (h : EvL te σ H (bs.map V.bl)) : Ev (tCB (rAll K) (tCons te tNil)) σ H (.bl (bs.all id)) := fun H1 e Q q =>
  h H1 e _ fun p H2 _ e2 h2 => ⟨p, bs, rfl, sq_of h2, q H2 e2⟩
abbrev rMin2 : List V → Hp → VK → Prop := fun xs H Q => ∃ i j, xs = [.int i, .int j] ∧ Q (.int (if j < i then j else i)) H
theorem ev_min2 {i j : Int} (ha : Ev ta σ H (.int i)) (hb : Ev te σ H (.int j)) : Ev (tCB rMin2 (tCons ta (tCons te tNil))) σ H (.int (if j < i then j else i)) := fun H1 e Q q =>
  ha H1 e _ fun H2 e2 => hb H2 (e.trans e2) _ fun H3 e3 => ⟨i, j, rfl, q H3 (e2.trans e3)⟩
theorem ev_isi {x : V} {t : String} {c : String} {b : Bool} (h : Ev te σ H x) (hx : ∀ H1, Ex H H1 → TyX K H1 x (.type t)) (hb : kitB t c = some b) : Ev (tCB (rIsi K) (tCons te (tCons (tC (.ty c)) tNil))) σ H (.bl b) := fun H1 e Q q =>
  h H1 e _ fun H2 e2 => ⟨x, .ty c, .type t, .type c, b, rfl, .ty c, hx H2 (e.trans e2), kit_ty hb, q H2 e2⟩
theorem ty_int {i : Int} : TyX K H (.int i) (.type "int") := .base (.int i)
theorem ty_str {z : Str} : TyX K H (.str z) (.type "str") := .base (.str z)
theorem ty_bl {z : Bool} : TyX K H (.bl z) (.type "bool") := .base (.bl z)
theorem ty_lst {p : Addr} {xs : List V} (h : H p = some (.lst xs)) : TyX K H (.ref p) (.type "list") := .base (.lst h)
/-- a method of a text with one argument -/
theorem ev_bmT {m : V → List V → Hp → VK → Prop} {to : TE} {ta : TA} {z : Str} {vs : List V} {v : V} (h : Ev to σ H (.str z)) (ha : EvA ta σ H vs) (hm : ∀ H1, Ex H H1 → ∀ Q : VK, Q v H1 → m (.str z) vs H1 Q) : Ev (tBM K "str" m to ta) σ H v := fun H1 e Q q =>
  h H1 e _ fun H2 e2 => ⟨rfl, ha H2 (e.trans e2) _ fun H3 e3 => hm H3 ((e.trans e2).trans e3) Q (q H3 (e2.trans e3))⟩
theorem ev_ends {a b : List Nat} {to : TE} {ta : TA} (h : Ev to σ H (.str (S a))) (ha : EvA ta σ H [.str (S b)]) :
    Ev (tBM K "str" (fun x xs H Q => ∃ a b, x = .str a ∧ xs = [.str b] ∧ Q (.bl (Txt.endswith a b)) H) to ta) σ H (.bl (decide (b <:+ a))) :=
  ev_bmT h ha fun H1 _ Q q => ⟨S a, S b, rfl, rfl, by rw [ends_is]; exact q⟩
theorem ev_strip {a b : List Nat} {to : TE} {ta : TA} (h : Ev to σ H (.str (S a))) (ha : EvA ta σ H [.str (S b)]) (hz : a.length ≤ 100000) :
    Ev (tBM K "str" (fun x xs H Q => ∃ a b, x = .str a ∧ xs = [.str b] ∧ a.length ≤ sizeLine ∧ Q (.str (Txt.stripChars a b)) H) to ta) σ H (.str (Txt.stripChars (S a) (S b))) :=
  ev_bmT h ha fun H1 _ Q q => ⟨S a, S b, rfl, rfl, sl_ok (by rw [S_len]; exact hz), q⟩
abbrev rInT : R2 := fun x y H Q => ∃ i j : Str, x = .str i ∧ y = .str j ∧ Q (.bl (!(Builtin.Str.occurrences j i 0 j.length 1).isEmpty)) H
abbrev rNinT : R2 := fun x y H Q => ∃ i j : Str, x = .str i ∧ y = .str j ∧ Q (.bl (!(!(Builtin.Str.occurrences j i 0 j.length 1).isEmpty))) H
theorem rv_inS {a b : List Nat} : RV rInT (.str (S b)) (.str (S a)) H (.bl (decide (b <:+: a))) := fun H1 e Q q => ⟨S b, S a, rfl, rfl, by rw [in_is]; exact q H1 (Ex.refl H1)⟩
theorem rv_ninS {a b : List Nat} : RV rNinT (.str (S b)) (.str (S a)) H (.bl (!decide (b <:+: a))) := fun H1 e Q q => ⟨S b, S a, rfl, rfl, by rw [in_is]; exact q H1 (Ex.refl H1)⟩
end
end Fw

set_option Elab.async false
set_option linter.all false
set_option maxRecDepth 100000
set_option maxHeartbeats 4000000
namespace Fw
open PySem PySem.Spec PyProof.Rows L2 Evl
section
variable {K : PySem.W.Frag} {σ : L2.St} {H : Hp} {ta tb te tl : TE}
/-! ### readings with the written part named (for use within a comprehension) -/
section
variable {X : Cx} {e : Expr} {to ta tb : TE} {t : TA} {T : String} {r : V → List V → Hp → VK → Prop}
theorem pk_bm (K : PySem.W.Frag) (h : PE X e (tBM X.K T r to t)) (hK : X.K = K := by rfl) : PE X e (tBM K T r to t) := by
  subst hK
  exact h
theorem pk_ix (K : PySem.W.Frag) (h : PE X e (tOp (rIxL X.K) ta tb)) (hK : X.K = K := by rfl) : PE X e (tOp (rIxL K) ta tb) := by
  subst hK
  exact h
theorem pk_len (K : PySem.W.Frag) (h : PE X e (tCB (rLenS X.K) t)) (hK : X.K = K := by rfl) : PE X e (tCB (rLenS K) t) := by
  subst hK
  exact h
end
/-! ### lists of ints that are equal -/
theorem dpAll_ints (ns : List Int) : DpAll K H (iV ns) (ns.map PyData.int) := by
  induction ns with
  | nil => exact .nil
  | cons n ns ih => exact .cons (.int n) ih
theorem shaped_ints (ns : List Int) : SeqAt.shaped (.list (ns.map PyData.int)) = true := by
  have h1 : ∀ l : List Int, PyData.canLayAll0 (l.map PyData.int) = true := fun l => by
    induction l with
    | nil => rfl
    | cons n l ih => simp [PyData.canLayAll0, PyData.canLay0, ih]
  have h2 : ∀ l : List Int, PyData.depthAll (l.map PyData.int) ≤ 1 := fun l => by
    induction l with
    | nil => simp [PyData.depthAll]
    | cons n l ih => simp [PyData.depthAll, PyData.depth]; exact ih
  unfold SeqAt.shaped
  rw [Bool.and_eq_true, decide_eq_true_eq]
  refine ⟨by simp only [PyData.canLay0]; exact h1 ns, ?_⟩
  have := h2 ns
  simp only [PyData.depth]
  omega
theorem eqv_ints (ns : List Int) : PyData.eqv (.list (ns.map PyData.int)) (.list (ns.map PyData.int)) = true :=
  SeqAt.eqv_refl _ (SeqAt.canLay_of_shaped (shaped_ints ns))
theorem rv_eqL {p q : Addr} {ns : List Int} (h1 : SqL K H p (iV ns)) (h2 : SqL K H q (iV ns)) : RV (rEqD K) (.ref p) (.ref q) H (.bl true) := fun H1 e Q k =>
  ⟨.list (ns.map .int), .list (ns.map .int), .lst (ex_l e h1) (dpAll_ints ns), .lst (ex_l e h2) (dpAll_ints ns), shaped_ints ns, shaped_ints ns, by rw [eqv_ints]; exact k H1 (Ex.refl H1)⟩
theorem rv_neL {p q : Addr} {ns : List Int} (h1 : SqL K H p (iV ns)) (h2 : SqL K H q (iV ns)) : RV (rNeD K) (.ref p) (.ref q) H (.bl false) := fun H1 e Q k =>
  ⟨.list (ns.map .int), .list (ns.map .int), .lst (ex_l e h1) (dpAll_ints ns), .lst (ex_l e h2) (dpAll_ints ns), shaped_ints ns, shaped_ints ns, by rw [eqv_ints]; exact k H1 (Ex.refl H1)⟩
theorem ev_eqLL {ns : List Int} (ha : EvL ta σ H (iV ns)) (hb : EvL tb σ H (iV ns)) : Ev (tOp (rEqD K) ta tb) σ H (.bl true) := ev_opLL ha hb fun _ _ _ h1 h2 _ => rv_eqL (sq_of h1) (sq_of h2)
theorem ev_neLL {ns : List Int} (ha : EvL ta σ H (iV ns)) (hb : EvL tb σ H (iV ns)) : Ev (tOp (rNeD K) ta tb) σ H (.bl false) := ev_opLL ha hb fun _ _ _ h1 h2 _ => rv_neL (sq_of h1) (sq_of h2)

/-! ### comprehensions over range(a, b) -/
theorem et_yes : EvT tYes σ H true := fun H1 _ _ q => q H1 (Ex.refl H1)
/-- [e for x in l], l ints, each taken to g -/
theorem given_map {α : Type} (xs : List α) (n : Nat) (hn : n = xs.length) (f : α → V) (v : Nat → V) (hv : ∀ i x, xs[i]? = some x → v i = f x) : given n (fun _ => true) v = xs.map f := by
  subst hn
  unfold given
  rw [List.filter_eq_self.mpr (fun _ _ => rfl)]
  refine List.ext_getElem? fun i => ?_
  rw [List.getElem?_map, List.getElem?_map]
  by_cases h : i < xs.length
  · rw [List.getElem?_range h, List.getElem?_eq_getElem h]
    show some (v i) = some (f xs[i])
    rw [hv i _ (List.getElem?_eq_getElem h)]
  · rw [List.getElem?_eq_none (by simpa using h), List.getElem?_eq_none (by simpa using h)]; rfl

theorem el_lcR2 {ta : TA} {t : TT} {j : Nat} {vs : List Nat} {lo n : Int} (f : Nat → Bool) (v : Nat → V) (h : EvA ta σ H [.int lo, .int n]) (hn : 0 ≤ lo ∧ lo ≤ 40000 ∧ -40000 ≤ n ∧ n ≤ 40000) (hw : ∀ x, wipe ((wipe σ vs).set j (some x)) vs = wipe σ vs)
    (ht : ∀ (i : Nat) H1, Ex H H1 → lo + (i : Int) < n → EvT t ((wipe σ vs).set j (some (.int (lo + (i : Int))))) H1 (f i)) (he : ∀ (i : Nat) H1, Ex H H1 → lo + (i : Int) < n → f i = true → Ev te ((wipe σ vs).set j (some (.int (lo + (i : Int))))) H1 (v i)) :
    EvL (tLc (iRng2 ta) (gName j) t te vs) σ H (given (n - lo).toNat f v) := fun H0 e Q q => h H0 e _ fun H1 e1 => ⟨lo, n, rfl, ⟨by omega, by omega, by omega, by omega⟩, fun Dl hD =>
  lc_range (lo := lo) (n := (n - lo).toNat) (Cw H1 f v Dl) ⟨hD, Ex.new hD, upd_same⟩ (fun i H' hi p =>
    ⟨hw _, cw_turn p (by omega) (ht i H1 (e.trans e1) (by omega)) (fun hf => he i H1 (e.trans e1) (by omega) hf)⟩) (fun H' p => q Dl H' (fresh_back e1 p.1) (e1.trans p.2.1) p.2.2)⟩
/-- [k for k in range(1, n + 1) if P k] -/
theorem given_filter (n : Nat) (P : Nat → Bool) : given n (fun i => P (i + 1)) (fun i => V.int ((i + 1 : Nat) : Int)) = iV (nI (((List.range n).map (· + 1)).filter P)) := by
  unfold given
  rw [List.filter_map, iV, nI, List.map_map, List.map_map]
  rfl
theorem el_count {ta : TA} {t : TT} {te : TE} {j : Nat} {vs : List Nat} {n : Nat} (P : Nat → Bool) (h : EvA ta σ H [.int 1, .int ((n + 1 : Nat) : Int)]) (hn : n ≤ 30000) (hw : ∀ x, wipe ((wipe σ vs).set j (some x)) vs = wipe σ vs)
    (ht : ∀ (k : Nat) H1, Ex H H1 → 0 < k → k ≤ n → EvT t ((wipe σ vs).set j (some (.int (k : Int)))) H1 (P k)) (he : ∀ (k : Nat) H1, Ex H H1 → Ev te ((wipe σ vs).set j (some (.int (k : Int)))) H1 (.int (k : Int))) :
    EvL (tLc (iRng2 ta) (gName j) t te vs) σ H (iV (nI (((List.range n).map (· + 1)).filter P))) := by
  have e0 : ∀ i : Nat, (1 : Int) + (i : Int) = ((i + 1 : Nat) : Int) := fun i => by omega
  have := el_lcR2 (σ := σ) (H := H) (te := te) (ta := ta) (t := t) (j := j) (vs := vs) (lo := 1) (n := ((n + 1 : Nat) : Int)) (fun i => P (i + 1)) (fun i => V.int ((i + 1 : Nat) : Int)) h ⟨by omega, by omega, by omega, by omega⟩ hw
    (fun i H1 e hi => by rw [e0]; exact ht (i + 1) H1 e (by omega) (by omega)) (fun i H1 e hi _ => by rw [e0]; exact he (i + 1) H1 e)
  have e1 : (((n + 1 : Nat) : Int) - 1).toNat = n := by omega
  rw [e1, given_filter] at this
  exact this
/-- range(0, n, c) with 0 < c -/
theorem rgC_up {n c : Int} (h0 : 0 ≤ n) (h1 : n ≤ 100000) (c0 : 0 < c) (c1 : c ≤ 100000) : ∃ m : Nat, RgC 0 n c m := by
  have h2 : 0 ≤ Builtin.Range.rangeSize 0 n c ∧ Builtin.Range.rangeSize 0 n c ≤ 100001 := by
    unfold Builtin.Range.rangeSize
    rw [if_pos c0]
    split
    · have a := Int.ediv_nonneg (show 0 ≤ n - 0 - 1 by omega) (show 0 ≤ c by omega)
      have b := Int.ediv_le_self c (show 0 ≤ n - 0 - 1 by omega)
      constructor <;> omega
    · omega
  refine ⟨(Builtin.Range.rangeSize 0 n c).toNat, by omega, by omega, ?_, by omega⟩
  unfold Builtin.Range.small
  simp only [Builtin.Range.rangeFitsLong, Bool.and_eq_true, Bool.or_eq_true, decide_eq_true_eq, beq_iff_eq, if_pos c0]
  omega
end
end Fw

set_option Elab.async false
set_option linter.all false
set_option maxRecDepth 100000
set_option maxHeartbeats 4000000
namespace Fw
open PySem PySem.Spec PyProof.Rows L2 Evl
/-! ### text[::-1] -/
def tRevS (te : TE) : TE := fun σ H Q => te σ H fun x H1 => ∃ z : Str, x = .str z ∧ z.length ≤ sizeLine ∧ Q (.str (S z.cps.toList.reverse)) H1
theorem revS_made (z : Str) (t tk : Tok) : sliceMade z t none none (some (-1, tk)) = Made.str (S z.cps.toList.reverse) := by
  unfold sliceMade slicePicked
  have e : Builtin.Str.strSliceIndices none none (((some ((-1 : Int), tk)).map (·.1)).getD 1) z.length = (List.range z.length).reverse := by
    show sliceRange ((z.length : Int) - 1) (-1) (-1) = _
    rw [PySem.W.krv_sliceRange, PySem.W.krv_range]
  show (if ((-1 : Int) == 1 && _) = true then _ else _) = _
  rw [if_neg (by simp)]
  congr 2
  show (List.filterMap (z.cps[·]?) (Builtin.Str.strSliceIndices none none (((some ((-1 : Int), tk)).map (·.1)).getD 1) z.length)).toArray = _
  rw [e, List.filterMap_reverse]
  congr 2
  exact PySem.W.krv_all z.cps
section
variable {X : Cx}
theorem pe_revS {e : Expr} {te : TE} {k : Nat} {p1 p2 p3 pos : Pos} (he : PE X e te) : PE X (.Subscript e (.Slice none none (some (.UnaryOp .USub (.Constant (.int 1) k p1) p2)) p3) pos) (tRevS te) := by
  refine ⟨fun pins s σ H Q I h => ?_⟩
  refine Subscript_ (thn (he.run pins s σ H _ I h) fun v s1 ⟨x, H1, I1, r1, z, ez, hz, q⟩ => ?_)
  subst ez
  obtain ⟨t, rfl⟩ := r1
  have hst : PO X (some (.UnaryOp .USub (.Constant (.int 1) k p1) p2)) (tPart (tUn (rU fun i => .int (-i)) (tC (.int 1)))) := po_some (pe_un un_neg pe_int)
  refine wpAny_Slice (thn (po_none.run pins s1 σ H1 (fun o H2 => o = none ∧ H2 = H1) I1 ⟨rfl, rfl⟩) fun vl s2 ⟨l, H2, I2, pl, el, e2⟩ => ?_)
  subst el e2
  refine thn (po_none.run pins s2 σ H2 (fun o H3 => o = none ∧ H3 = H2) I2 ⟨rfl, rfl⟩) fun vu s3 ⟨u, H3, I3, pu, eu, e3⟩ => ?_
  subst eu e3
  refine thn (hst.run pins s3 σ H3 (fun o H4 => o = some (-1) ∧ H4 = H3) I3 ⟨1, rfl, -1, rfl, rfl, rfl⟩) fun vs s4 ⟨o, H4, I4, ps, eo, e4⟩ => ?_
  subst eo e4
  have I5 : Inv X pins σ H4 { s4 with heap := s4.heap.push { cls := .type "slice", data := .fields #[vl, vu, vs] } } := I4.kept (t' := s4.toks) fun b ob q => Heap.get?_push_of_some _ q
  cases pl
  cases pu
  cases ps with
  | int _ tk =>
    refine tail_any (ops := [.str z t, .ref s4.heap.objs.size]) (typeIs_str _ _ _) F.slot_str_getitem.lookup ?_ (by with_unfolding_all rfl)
    refine wpAny_getItem_str_slice (l := none) (u := none) (st := some (-1, tk)) ⟨_, Heap.get?_push_size _ rfl, rfl, rfl⟩ rfl ?_
    rw [revS_made]
    exact ⟨by rw [S_len, List.length_reverse]; simpa [Str.length] using hz, .str _, H4, I5.tok _, ⟨_, rfl⟩, q⟩
end
/-! ### objects -/
structure Ma (P : Program) (w : World) (K : PySem.W.Frag) (mg : Str → Option Value) (base : Heap) (k : Nat) (x : Str) (C : Addr) (sp : Sp) : Prop where
  ex : ∃ (f : Addr) (fd : FuncData) (ps : List Str), Mk K C f ∧ FnOk P w K mg base CX0 k f fd ps sp ∧ mg x = some (.ref C) ∧ Binds K fd ps []
structure Me (P : Program) (w : World) (K : PySem.W.Frag) (mg : Str → Option Value) (base : Heap) (k : Nat) (C : Addr) (m : Str) (sp : Sp) : Prop where
  ex : ∃ (f : Addr) (fd : FuncData) (ps : List Str), Cls K C ∧ Meth K C m f ∧ FnOk P w K mg base CX0 k f fd ps sp ∧ Binds K fd ps []
section
variable {X : Cx} {k j : Nat} {C : Addr} {x m : Str} {sp : Sp} {p pos apos : Pos} {e o : Expr} {es : List Expr} {ta : TE} {t : TA}
theorem pe_ma (c : Ma X.prog X.w X.K X.mg X.base k x C sp) (hr : Room j X.A) (ha : PA X (e :: es) t) (hk : k + 1 ≤ j := by decide) (hg : Gl X x := by rfl)
    (hdb : (x == ("__debug__" : Str)) = false := by decide) (he : starEach (e :: es) X.env = (false, eval e X.env) :: starEach es X.env := by rfl) (hpl : (backTo pos (starEach es X.env)).any (·.1) = false := by rfl) :
    PE X (.Call (.Name x p) (e :: es) [] pos) (tMake C sp [] E0 t) := by
  obtain ⟨f, fd, ps, M, F, hm, b⟩ := c.ex
  exact pe_make M F (hr.mono hk) hg hm b .nil pass0 ha hdb he hpl
theorem pe_me {pl : Sem Bool} (c : Me X.prog X.w X.K X.mg X.base k C m sp) (hr : Room j X.A) (ho : PE X o ta) (ha : PA X (e :: es) t) (hk : k ≤ j := by decide)
    (hst : starEach (e :: es) X.env = (false, eval e X.env) :: starEach es X.env := by rfl) (hpl : (backTo pos (starEach es X.env)).any (·.1) = false := by rfl)
    (ht : eval (.Call (.Attribute o m apos) (e :: es) [] pos) X.env = (do
      let ov ← eval o X.env
      standAt apos.atName
      let (f, first) ← holding [ov] (getMethod ov m pl)
      callWith pos f first (backTo pos (starEach (e :: es) X.env)) (backToKw pos (keywordEach [] X.env))) := by rfl) :
    PE X (.Call (.Attribute o m apos) (e :: es) [] pos) (tMeth C m sp [] E0 ta t) := by
  obtain ⟨f, fd, ps, hc, hm, F, b⟩ := c.ex
  exact pe_meth (pl := pl) ho hc hm F (hr.mono hk) b .nil pass0 ha hst hpl ht
/-- a class of the module as a value -/
theorem pe_cls {x : Str} {pos : Pos} (h : X.mg x = some (.ref C)) (hg : Gl X x := by rfl) (hd : (x == ("__debug__" : Str)) = false := by decide) : PE X (.Name x pos) (tC (.ref C)) :=
  pe_glob hg h rfl hd
theorem pk_fld (K : PySem.W.Frag) {f : Str} (h : PE X e (tFld X.K ta f)) (hK : X.K = K := by rfl) : PE X e (tFld K ta f) := by
  subst hK
  exact h
end
/-- what isinstance asks of the class of an instance -/
structure InsF (K : PySem.W.Frag) (C : Addr) : Prop where
  cl : Cls K C
  ha : PySem.W.findIn K (.ref C) "__class__" = some (some (.builtin "object.__class__"))
  hn : PySem.W.specialIn K (.builtin "object.__class__") "__get__" = some (some (.builtin "getset_descriptor.__get__"))
  htk : PySem.W.takesIn K (.builtin "object.__class__") = some true
  hm : PySem.W.mroIn K C (.type "object") = some true
section
variable {K : PySem.W.Frag} {σ : L2.St} {H : Hp} {ta tb te tl : TE} {p C dx : Addr} {fs : List (Str × V)} {m f : Str} {v z : V} {E : XK} {t : TA} {vs : List V}
theorem ev_fld (h : Ev te σ H (.ref p)) (ho : H p = some (.ins C dx fs)) (c : Cls K C) (n : NoAttr K C f) (l : fs.lookup f = some v) : Ev (tFld K te f) σ H v := fun H1 e Q q =>
  h H1 e _ fun H2 e2 => ⟨p, C, dx, fs, v, rfl, e2 _ _ (e _ _ ho), c, n, l, q H2 e2⟩
theorem ev_me {R : List V → Hp → V → Prop} (h : Ev ta σ H (.ref p)) (ho : H p = some (.ins C dx fs)) (l : fs.lookup m = none) (ha : EvA t σ H vs) (hr : ∀ H1, Ex H H1 → R (.ref p :: vs) H1 z) : Ev (tMeth C m (PV R) [] E ta t) σ H z := fun H1 e Q q =>
  h H1 e _ fun H2 e2 => ⟨p, dx, fs, rfl, e2 _ _ (e _ _ ho), l, ha H2 (e.trans e2) _ fun H3 e3 => ⟨z, by rw [List.append_nil]; exact hr H3 ((e.trans e2).trans e3), fun H4 e4 => q H4 ((e2.trans e3).trans e4)⟩⟩
theorem ev_isiC {D : Addr} {b : Bool} (h : Ev te σ H (.ref p)) (ho : H p = some (.ins C dx fs)) (F : InsF K C) (hb : PySem.W.kitOne K (.ref C) (.ref D) = some b) : Ev (tCB (rIsi K) (tCons te (tCons (tC (.ref D)) tNil))) σ H (.bl b) := fun H1 e Q q =>
  h H1 e _ fun H2 e2 => ⟨.ref p, .ref D, .ref C, .ref D, b, rfl, .own D, .base (.ins (e2 _ _ (e _ _ ho)) F.cl F.ha F.hn F.htk F.hm), hb, q H2 e2⟩
theorem rv_notB {a b : Bool} : RV rNotB (.bl a) (.bl b) H (.bl (!decide (a = b))) := fun H1 e Q q => ⟨a, b, rfl, rfl, q H1 (Ex.refl H1)⟩
theorem rv_isB {a b : Bool} : RV rIsB (.bl a) (.bl b) H (.bl (decide (a = b))) := fun H1 e Q q => ⟨a, b, rfl, rfl, q H1 (Ex.refl H1)⟩
theorem bl_eq {a b : Bool} : decide (V.bl a = V.bl b) = decide (a = b) := by
  cases a <;> cases b <;> rfl
theorem rv_neB {a b : Bool} : RV rNe (.bl a) (.bl b) H (.bl (!decide (a = b))) := fun H1 e Q q => ⟨rfl, by rw [bl_eq]; exact q H1 (Ex.refl H1)⟩
theorem rv_eqB {a b : Bool} : RV rEq (.bl a) (.bl b) H (.bl (decide (a = b))) := fun H1 e Q q => ⟨rfl, by rw [bl_eq]; exact q H1 (Ex.refl H1)⟩
theorem ev_revS {w : List Nat} (h : Ev te σ H (.str (S w))) (hz : w.length ≤ 100000) : Ev (tRevS te) σ H (.str (S w.reverse)) := fun H1 e Q q =>
  h H1 e _ fun H2 e2 => ⟨S w, rfl, sl_ok (by rw [S_len]; exact hz), q H2 e2⟩
theorem ev_chainI {a n b : Int} (ha : Ev ta σ H (.int a)) (hb : Ev tb σ H (.int n)) (hc : Ev te σ H (.int b)) :
    Ev (tChain (rI0 fun i j => .bl (decide (i ≤ j))) (rI0 fun i j => .bl (decide (i ≤ j))) ta tb te) σ H (.bl (decide (a ≤ n) && decide (n ≤ b))) := fun H1 e Q q =>
  ha H1 e _ fun H2 e2 => hb H2 (e.trans e2) _ fun H3 e3 => ⟨a, n, rfl, rfl, decide (a ≤ n), rfl, by
    cases hd : decide (a ≤ n) with
    | true => exact hc H3 ((e.trans e2).trans e3) _ fun H4 e4 => ⟨n, b, rfl, rfl, by
        have := q H4 ((e2.trans e3).trans e4)
        rw [hd] at this
        exact this⟩
    | false =>
      have := q H3 (e2.trans e3)
      rw [hd] at this
      exact this⟩
theorem rv_mulL {i j : Int} (h : -(2 ^ 64) < i ∧ i < 2 ^ 64) : RV (rI CMul fun i j => .int (i * j)) (.int i) (.int j) H (.int (i * j)) := rv_I (Or.inl h)
theorem rv_mulR {i j : Int} (h : -(2 ^ 64) < j ∧ j < 2 ^ 64) : RV (rI CMul fun i j => .int (i * j)) (.int i) (.int j) H (.int (i * j)) := rv_I (Or.inr h)
/-- [e for c in text] -/
theorem el_lcT {w : List Nat} {j : Nat} {vs : List Nat} (g : Nat → V) (h : Ev tl σ H (.str (S w))) (hz : w.length ≤ 40000) (hw : ∀ x, wipe ((wipe σ vs).set j (some x)) vs = wipe σ vs)
    (he : ∀ c, c ∈ w → ∀ H1, Ex H H1 → Ev te ((wipe σ vs).set j (some (.str (S [c])))) H1 (g c)) : EvL (tLc (iStr tl) (gName j) tYes te vs) σ H (w.map g) := by
  have key : EvL (tLc (iStr tl) (gName j) tYes te vs) σ H (given w.length (fun _ => true) (fun i => (w[i]?.map g).getD .non)) := fun H0 e Q q => h H0 e _ fun H1 e1 => ⟨S w, rfl, fun Dl hD =>
    lc_it (walk_str (z := S w)) (Cw H1 (fun _ => true) (fun i => (w[i]?.map g).getD .non) Dl) ⟨hD, Ex.new hD, upd_same⟩ (fun _ _ _ _ => trivial) (fun i x H2 H3 hi p y => by
      obtain ⟨rfl, c, hc, rfl⟩ := y
      rw [cps_get] at hc
      refine ⟨hw _, cw_turn p (by rw [cps_size] at hi; omega) et_yes fun _ => ?_⟩
      show Ev te _ H1 ((w[i]?.map g).getD .non)
      rw [hc]
      exact he c (List.mem_of_getElem? hc) H1 (e.trans e1)) (fun H' p => q Dl H' (fresh_back e1 p.1) (e1.trans p.2.1) (by
        have h3 := p.2.2
        rw [cps_size] at h3
        exact h3))⟩
  rw [given_map w w.length rfl g _ (fun i x hx => by rw [hx]; rfl)] at key
  exact key
end
end Fw

set_option Elab.async false
set_option linter.all false
set_option maxRecDepth 100000
set_option maxHeartbeats 4000000
namespace Fw
open PySem PySem.Spec PyProof.Rows L2 Evl
/-! ### more of readings -/
section
variable {K : PySem.W.Frag} {σ : L2.St} {H : Hp} {ta tb te tl : TE}
theorem ev_ixU {xs : List V} {i : Int} {v : V} (ha : EvU ta σ H xs) (hb : Ev tb σ H (.int i)) (hv : atI xs i = some v) : Ev (tOp (rIxT K) ta tb) σ H v := fun H1 e Q q =>
  ha H1 e _ fun p H2 _ e2 hp => hb H2 (e.trans e2) _ fun H3 e3 => ⟨p, xs, i, v, rfl, rfl, ex_t e3 (st_of hp), hv, q H3 (e2.trans e3)⟩
theorem ev_ixL0 {xs : List V} {i : Int} {v : V} (ha : EvL ta σ H xs) (hb : Ev tb σ H (.int i)) (hv : atI xs i = some v) : Ev (tOp (rIxL K) ta tb) σ H v := fun H1 e Q q =>
  ha H1 e _ fun p H2 _ e2 hp => hb H2 (e.trans e2) _ fun H3 e3 => ⟨p, xs, i, v, rfl, rfl, ex_l e3 (sq_of hp), hv, q H3 (e2.trans e3)⟩
theorem el_lcV {α : Type} {xs : List α} {j : Nat} {vs : List Nat} {a : α → V} (g : α → V) (h : EvL tl σ H (xs.map a)) (hz : xs.length ≤ 40000) (hw : ∀ x, wipe ((wipe σ vs).set j (some x)) vs = wipe σ vs)
    (he : ∀ n, n ∈ xs → ∀ H1, Ex H H1 → Ev te ((wipe σ vs).set j (some (a n))) H1 (g n)) : EvL (tLc (iList K tl) (gName j) tYes te vs) σ H (xs.map g) := by
  have := el_lcNL (K := K) (xs := xs.map a) (fun _ => true) (fun i => (xs[i]?.map g).getD .non) h (by rw [List.length_map]; exact hz) hw (fun i x H1 e hx => et_yes) (te := te) (fun i x H1 e hx _ => by
    rw [List.getElem?_map] at hx
    cases hn : xs[i]? with
    | none => rw [hn] at hx; cases hx
    | some n =>
      rw [hn] at hx
      cases hx
      exact he n (List.mem_of_getElem? hn) H1 e)
  rw [given_map xs _ (List.length_map ..) g _ (fun i x hx => by rw [hx]; rfl)] at this
  exact this
/-- .. over a list that stands -/
theorem el_lcS {α : Type} {xs : List α} {j : Nat} {vs : List Nat} {a : α → V} {p : Addr} (g : α → V) (h : Ev tl σ H (.ref p)) (hl : SqL K H p (xs.map a)) (hz : xs.length ≤ 40000) (hw : ∀ x, wipe ((wipe σ vs).set j (some x)) vs = wipe σ vs)
    (he : ∀ n, n ∈ xs → ∀ H1, Ex H H1 → Ev te ((wipe σ vs).set j (some (a n))) H1 (g n)) : EvL (tLc (iList K tl) (gName j) tYes te vs) σ H (xs.map g) := by
  have := el_lcL (K := K) (xs := xs.map a) (fun _ => true) (fun i => (xs[i]?.map g).getD .non) h hl (by rw [List.length_map]; exact hz) hw (fun i x H1 e hx => et_yes) (te := te) (fun i x H1 e hx _ => by
    rw [List.getElem?_map] at hx
    cases hn : xs[i]? with
    | none => rw [hn] at hx; cases hx
    | some n =>
      rw [hn] at hx
      cases hx
      exact he n (List.mem_of_getElem? hn) H1 e)
  rw [given_map xs _ (List.length_map ..) g _ (fun i x hx => by rw [hx]; rfl)] at this
  exact this
theorem cutV_to (ns : List Int) (k : Nat) : cutV (iV ns) none (some (k : Int)) = iV (ns.take k) := by
  unfold cutV
  rw [HT.sIx_none, List.length_map, HT.sIx_nat, List.drop_zero, Nat.sub_zero, iV, ← List.map_take]
  rcases Nat.le_total k ns.length with h | h
  · rw [Nat.min_eq_left h]
  · rw [Nat.min_eq_right h, List.take_length, List.take_of_length_le h]
theorem cutV_from (ns : List Int) (k : Nat) : cutV (iV ns) (some (k : Int)) none = iV (ns.drop k) := by
  unfold cutV
  rw [HT.sIx_none, List.length_map, HT.sIx_nat, iV, ← List.map_drop, ← List.map_take]
  rcases Nat.le_total k ns.length with h | h
  · rw [Nat.min_eq_left h, List.take_of_length_le (by rw [List.length_drop]; omega)]
  · rw [Nat.min_eq_right h, List.drop_of_length_le h, List.drop_of_length_le (Nat.le_refl _), List.take_nil]
theorem el_to {ns : List Int} {th : TO} {k : Nat} {p : Addr} (h : Ev te σ H (.ref p)) (h2 : EvO th σ H (some (k : Int))) (hl : SqL K H p (iV ns)) : EvL (tSl (rSlL K) te tNoPart th) σ H (iV (ns.take k)) := by
  rw [← cutV_to]
  exact el_sl h eo_none h2 hl
theorem el_from {ns : List Int} {tl : TO} {k : Nat} {p : Addr} (h : Ev te σ H (.ref p)) (h2 : EvO tl σ H (some (k : Int))) (hl : SqL K H p (iV ns)) : EvL (tSl (rSlL K) te tl tNoPart) σ H (iV (ns.drop k)) := by
  rw [← cutV_from]
  exact el_sl h h2 eo_none hl
abbrev rJoinT (K : PySem.W.Frag) : V → List V → Hp → VK → Prop := fun x xs H Q => ∃ a p, ∃ ys : List Str, x = .str a ∧ xs = [.ref p] ∧ (SqL K H p (ys.map V.str) ∨ SqT K H p (ys.map V.str)) ∧ (ys.map (·.length)).sum + ys.length * a.length ≤ 16777216 ∧ Q (.str (Txt.join a ys)) H
theorem join_one (ls : List Nat) : Txt.join (S []) (ls.map fun c => S [c]) = S ls := by
  refine TL.ext_tl ?_
  rw [TL.join_eq, TL.tl_join, List.map_map]
  show TL.joinL [] (ls.map fun c => [c]) = ls
  induction ls with
  | nil => rfl
  | cons c ls ih =>
    cases ls with
    | nil => rfl
    | cons d ls =>
      show [c] ++ ([] ++ TL.joinL [] ((d :: ls).map fun c => [c])) = c :: d :: ls
      rw [ih]; rfl
theorem ev_join {z : Str} {ls : List Nat} (hz : z = S []) (h : EvL ta σ H (ls.map fun c => V.str (S [c]))) (hn : ls.length ≤ 100000) : Ev (tBM K "str" (rJoinT K) (tC (.str z)) (tCons ta tNil)) σ H (.str (S ls)) := fun H1 e Q q =>
  ⟨rfl, h H1 e _ fun p H2 _ e2 h2 => ⟨z, p, ls.map fun c => S [c], rfl, rfl, Or.inl (sq_of (by rw [List.map_map]; exact h2)), by
    subst hz
    rw [S_len, List.length_nil, Nat.mul_zero, Nat.add_zero, List.map_map]
    have e3 : (ls.map ((fun z : Str => z.length) ∘ fun c => S [c])).sum = ls.length := by
      have : ((fun z : Str => z.length) ∘ fun c => S [c]) = fun _ => 1 := by
        funext c
        exact S_len [c]
      rw [this]
      clear h2 h q
      induction ls with
      | nil => rfl
      | cons c ls ih => rw [List.map_cons, List.sum_cons, ih (by rw [List.length_cons] at hn; omega), List.length_cons]; omega
    rw [e3]; omega, by
    subst hz
    rw [join_one]
    exact q H2 e2⟩⟩
end
section
variable {K : PySem.W.Frag} {σ : L2.St} {H : Hp} {ta tb te tl : TE} {C : Addr} {sp : Sp} {E : XK} {D : Ends} {xs : List V} {v : V}
/-- return C(new list), return C(new list, value) -/
theorem s_retMk1 (h : EvL te σ H xs) (k : ∀ l H1, H l = none → Ex H H1 → H1 l = some (.lst xs) → ∀ x dx, H1 x = none → H1 dx = none → dx ≠ x → sp [.ref x, .ref l] (upd (upd H1 dx (.own x)) x (.ins C dx [])) (fun v H2 => v = .non ∧ D.rt (.ref x) H2) E) :
    tRet (tMake C sp [] E (tCons te tNil)) D σ H := h H (Ex.refl H) _ fun p H1 hp e h1 => k p H1 hp e h1
theorem s_retMk2 (h : EvL te σ H xs) (hb : Ev tb σ H v) (k : ∀ l H1, H l = none → Ex H H1 → H1 l = some (.lst xs) → ∀ x dx, H1 x = none → H1 dx = none → dx ≠ x → sp [.ref x, .ref l, v] (upd (upd H1 dx (.own x)) x (.ins C dx [])) (fun v H2 => v = .non ∧ D.rt (.ref x) H2) E) :
    tRet (tMake C sp [] E (tCons te (tCons tb tNil))) D σ H := h H (Ex.refl H) _ fun p H1 hp e h1 => hb H1 e _ fun H2 e2 => k p H2 hp (e.trans e2) (e2 _ _ h1)
end
end Fw

set_option Elab.async false
set_option linter.all false
set_option maxRecDepth 100000
set_option maxHeartbeats 4000000
namespace Fw
open PySem PySem.Spec PyProof.Rows L2 Evl
def top (i : Nat) : Stmt := PySem.Challenge.pw_firstword_k02_whole_waits.main.body.getD i (.Pass ⟨0, 0, 0, 0⟩)
/-- what the top has left of names: the built-ins stand, the letters -/
structure Tx (K : PySem.W.Frag) (mg : Str → Option Value) : Prop where
  n_len : mg "len" = none
  n_range : mg "range" = none
  n_isinstance : mg "isinstance" = none
  n_str : mg "str" = none
  n_int : mg "int" = none
  n_bool : mg "bool" = none
  n_list : mg "list" = none
  n_sum : mg "sum" = none
  n_min : mg "min" = none
  n_max : mg "max" = none
  n_all : mg "all" = none
  n_any : mg "any" = none
  n_sorted : mg "sorted" = none
  n_enumerate : mg "enumerate" = none
  n_zip : mg "zip" = none
  n_set : mg "set" = none
  g_LETTERS : ∃ u, mg "LETTERS" = some u ∧ RelV (.str (S (lets 26))) u
theorem let26_len : (lets 26).length = 26 := rfl
theorem lets_take {s : Nat} (h : s ≤ 26) : (lets 26).take s = lets s := by
  unfold lets
  rw [← List.map_take, List.take_range, Nat.min_eq_left h]
/-- a test that fails, nothing else -/
theorem s_not {K : PySem.W.Frag} {σ : L2.St} {H : Hp} {t : TT} {tu : TS} {D : Ends} (h : EvT t σ H false) (k : ∀ H1, Ex H H1 → D.nx σ H1) : tIfS t tu tNext D σ H :=
  s_when h (fun e => nomatch e) fun _ => k
theorem q_not {K : PySem.W.Frag} {σ : L2.St} {H : Hp} {t : TT} {tu tz : TS} {D : Ends} (h : EvT t σ H false) (k : ∀ H1, Ex H H1 → tz D σ H1) : tSeq (tIfS t tu tNext) tz D σ H :=
  q_when h (fun e => nomatch e) fun _ => k
theorem over_dec {s : Nat} {w : Wd} : (∀ c ∈ w, c ∈ lets s) ↔ Over s w := ⟨fun h c hc => lets_mem.mp (h c hc), fun h c hc => lets_mem.mpr (h c hc)⟩
theorem S_empty : Str.ofString "" = S [] := by decide +kernel

/-! ### what a word is -/
abbrev sIsThrows : Stmt := top 7
abbrev sAskedWord : Stmt := top 9
abbrev sBacks : Stmt := top 10
abbrev sNext : Stmt := top 11
def spIsThrows : Sp := PV fun vs H z => ∃ (w : Wd) (s : Nat), vs = [.str (S w), .int (s : Int)] ∧ s ≤ 26 ∧ w.length ≤ 1000 ∧ z = .bl (decide (∀ c ∈ w, c ∈ lets s))
def spAskedWord : Sp := PV fun vs H z => ∃ (w : Wd) (s : Nat), vs = [.str (S w), .int (s : Int)] ∧ s ≤ 26 ∧ w.length ≤ 1000 ∧ Over s w ∧ 0 < w.length ∧ z = .non
def spBacks : Sp := PL fun vs H xs => ∃ w : Wd, vs = [.str (S w)] ∧ 0 < w.length ∧ w.length ≤ 1000 ∧ xs = iV (nI (backsTo w w.length))
def spNext (K : PySem.W.Frag) : Sp := PV fun vs H z => ∃ (w : Wd) (told : Addr) (m c : Nat), vs = [.str (S w), .ref told, .int (m : Int), .str (S [c])] ∧ SqL K H told (iV (nI (backsTo w w.length))) ∧
  m ≤ w.length ∧ 0 < w.length ∧ w.length ≤ 1000 ∧ z = .int (nx w m c : Nat)
section
variable {P : Program} {w : World} {K : PySem.W.Frag} {mg : Str → Option Value} {base : Heap} {f : Addr} {fd : FuncData}
theorem scIsThrows : FnScope ["thing", "sides"] ["thing", "sides"] (defScope sIsThrows) := ⟨rfl, rfl, rfl, by decide +kernel, rfl, by decide +kernel, by decide +kernel⟩
theorem ok_is_throws (T : Tx K mg) (F : L2.Fun K "is_throws" "is_throws" sIsThrows f fd) : FnOk P w K mg base CX0 1 f fd ["thing", "sides"] spIsThrows := by
  refine F.ok scIsThrows (fun vs H Q E h => ?_) (fun cdv A outer s H vs Q E hr h => ?_)
  · obtain ⟨z, ⟨_, _, rfl, _⟩, _⟩ := h
    rfl
  · obtain ⟨z, ⟨x, s, rfl, hs, hx, rfl⟩, k⟩ := h
    refine ⟨_, (pss_one (ps_ret (pe_and (pe_callB call_isi (by rfl) T.n_isinstance (by decide +kernel) (pa_cons (pv 0) (pa_cons (pe_ty "str" T.n_str) pa_nil))) (pe_one (pe_cmpR op_eq (pe_bm PySem.F.plainAttrs_str PySem.F.slot_str_strip PySem.F.type_str_strip mt_stripChars (pv 0) (pa_cons (pe_slice sl_str (pe_gcn T.g_LETTERS) po_none (po_some (pv 1))) pa_nil)) pe_str (nomark _)))))), ?_⟩
    refine s_ret (v := .bl (true && decide (∀ c ∈ x, c ∈ lets s))) (ev_andV (ev_isi (t := "str") (ev_var rfl) (fun _ _ => ty_str) (by decide +kernel)) fun _ => ?_) k
    refine ev_op (ev_strip (b := lets s) (ev_var rfl) (ea_cons ?_ ea_nil) (by omega)) ev_c ?_
    · exact ev_is (v := .str (S ((lets 26).take s))) (ev_to ev_c (eo_is (ev_var rfl) rfl) (by rw [let26_len]; omega)) (by rw [lets_take hs])
    · rw [S_empty]
      refine fun H1 e Q q => ⟨rfl, ?_⟩
      have e2 : decide (V.str (Txt.stripChars (S x) (S (lets s))) = V.str (S [])) = decide (∀ c ∈ x, c ∈ lets s) := by
        by_cases hq : ∀ c ∈ x, c ∈ lets s
        · rw [decide_eq_true hq, strip_none.mpr hq]; simp
        · rw [decide_eq_false hq, decide_eq_false]
          exact fun z => hq (strip_none.mp (V.str.inj z))
      rw [e2]
      exact q H1 (Ex.refl H1)
end
end Fw

set_option Elab.async false
set_option linter.all false
set_option maxRecDepth 100000
set_option maxHeartbeats 4000000
namespace Fw
open PySem PySem.Spec PyProof.Rows L2 Evl
section
variable {P : Program} {w : World} {K : PySem.W.Frag} {mg : Str → Option Value} {base : Heap} {f : Addr} {fd : FuncData}
theorem scAskedWord : FnScope ["word", "sides"] ["word", "sides"] (defScope sAskedWord) := ⟨rfl, rfl, rfl, by decide +kernel, rfl, by decide +kernel, by decide +kernel⟩
theorem ok_asked_word (T : Tx K mg) (F : L2.Fun K "asked_word" "asked_word" sAskedWord f fd) (C_is_throws : Ca P w K mg base 1 "is_throws" spIsThrows) : FnOk P w K mg base CX0 2 f fd ["word", "sides"] spAskedWord := by
  refine F.ok scAskedWord (fun vs H Q E h => ?_) (fun cdv A outer s H vs Q E hr h => ?_)
  · obtain ⟨z, ⟨_, _, rfl, _⟩, _⟩ := h
    rfl
  · obtain ⟨z, ⟨x, s, rfl, hs, hx, ho, h0, rfl⟩, k⟩ := h
    have hr : Room 1 _ := hr
    refine ⟨_, (pss_one (ps_if (PW.pt (pw_or (pt_not (pt_val (pe_ca C_is_throws hr (pa_cons (pv 0) (pa_cons (pv 1) pa_nil))))) (pw_or1 (pt_cmpR op_eq (pv 0) pe_str (nomark _)))))
      (pss_one ps_never) pss_nil)), ?_⟩
    refine s_not (K := K) (et_is (b := false) (et_or (a := false) (b := false) (et_is (et_not (et_B (ev_pv (z := .bl true) (ea_cons (ev_var rfl) (ea_cons (ev_var rfl) ea_nil)) fun _ _ => ⟨x, s, rfl, hs, hx, ?_⟩))) rfl) fun _ => ?_) rfl) fun H1 e1 => k H1 e1
    · rw [decide_eq_true (over_dec.mpr ho)]
    · rw [S_empty]
      refine et_is (et_test (ev_op (ev_var rfl) ev_c rv_eqS)) (decide_eq_false fun q => ?_)
      rw [q] at h0
      exact Nat.lt_irrefl _ h0
theorem scBacks : FnScope ["word", "found", "at", "many"] ["word"] (defScope sBacks) := ⟨rfl, rfl, rfl, by decide +kernel, rfl, by decide +kernel, by decide +kernel⟩
theorem nI_get {l : List Nat} {k v : Nat} (h : l[k]? = some v) : (nI l)[k]? = some (v : Int) := by
  rw [List.getElem?_map, h]; rfl
theorem ok_backs (T : Tx K mg) (F : L2.Fun K "backs" "backs" sBacks f fd) : FnOk P w K mg base CX0 1 f fd ["word"] spBacks := by
  refine F.ok scBacks (fun vs H Q E h => ?_) (fun cdv A outer s H vs Q E hr h => ?_)
  · obtain ⟨z, ⟨_, rfl, _⟩, _⟩ := h
    rfl
  · obtain ⟨z, ⟨x, rfl, h0, hx, rfl⟩, k⟩ := h
    have nd := scBacks.nd
    refine ⟨_, (pss_cons (ps_set (i := 1) nd rfl (Or.inl rfl) (pe_lst (pa_cons pe_int (pa_cons pe_int pa_nil))))
      (pss_cons (ps_for PassesOwn.never rfl (pi_range2 (by rfl) T.n_range (pa_cons pe_int (pa_cons (pe_callB call_len_str (by rfl) T.n_len PySem.boot_len (pa_cons (pv 0) pa_nil)) pa_nil))) (pg_name (i := 2) nd rfl (Or.inl rfl))
        (pss_cons (ps_set (i := 3) nd rfl (Or.inl rfl) (pe_ix ix_list (pv 1) (pv 2) (fun _ _ => rfl)))
        (pss_cons (ps_while PassesOwn.never (PW.pt (pw_and (pt_cmpR op_gt (pv 3) pe_int (nomark _)) (pw_and1 (pt_cmpR op_ne (pe_ix ix_str (pv 0) (pv 3) (fun _ _ => rfl)) (pe_ix ix_str (pv 0) (pv 2) (fun _ _ => rfl)) (nomark _)))))
          (pss_one (ps_set (i := 3) nd rfl (Or.inl rfl) (pe_ix ix_list (pv 1) (pv 3) (fun _ _ => rfl)))))
        (pss_one (ps_expr (pe_bm PySem.F.plainAttrs_list PySem.F.slot_list_append PySem.F.type_list_append mt_append (pv 1) (pa_cons (pe_ifExp (pt_cmpR op_eq (pe_ix ix_str (pv 0) (pv 3) (fun _ _ => rfl)) (pe_ix ix_str (pv 0) (pv 2) (fun _ _ => rfl)) (nomark _)) (pe_op op_add (pv 3) pe_int) pe_int) pa_nil)))))))
      (pss_one (ps_ret (pv 1))))), ?_⟩
    refine q_asgL (xs := iV [0, 0]) (el_lst (ea_cons ev_c (ea_cons ev_c ea_nil)) (by decide)) fun p H1 hp e1 h1 => ?_
    refine q_forR2 (lo := 1) (n := x.length) (ea_cons ev_c (ea_cons (ev_lenS (ev_var rfl) (by omega)) ea_nil)) ⟨by omega, by omega, by omega, by omega⟩
      (fun i σ' H' => ∃ a b, σ' = [some (.str (S x)), some (.ref p), a, b] ∧ Ex H H' ∧ H' p = some (.lst (iV (nI (backsTo x (i + 1)))))) (fun H2 e2 => ⟨none, none, rfl, e1.trans e2, e2 _ _ h1⟩) ?_ ?_
    · rintro i σ' H2 hi ⟨a, b, rfl, e2, h2⟩
      have e0 : (1 : Int) + (i : Int) = ((i + 1 : Nat) : Int) := by omega
      rw [e0]
      have hlt : i + 1 < x.length := by omega
      obtain ⟨c, hc⟩ := get_some hlt
      refine q_asg (v := .int (fail x (i + 1) : Nat)) (ev_op (ev_var rfl) (ev_var rfl) (rv_iL (sq_of h2) (nI_get (backsTo_get (Nat.le_refl _))))) fun H3 e3 => ?_
      refine q_while (fun m σ' H' => σ' = [some (.str (S x)), some (.ref p), some (.int ((i + 1 : Nat) : Int)), some (.int (m : Int))] ∧ Ex H H' ∧ H' p = some (.lst (iV (nI (backsTo x (i + 1))))) ∧ Desc x (x.take (i + 1)) c (i + 1) m) (fail x (i + 1))
        ⟨rfl, e2.trans e3, e3 _ _ h2, Desc.of_back (Nat.succ_pos i)⟩ ?_
      rintro m σ' H4 ⟨rfl, e4, h4, D⟩
      have hm := D.lt
      obtain ⟨d, hd⟩ := get_some (show m < x.length by omega)
      refine ⟨decide ((0 : Int) < (m : Int)) && !decide (d = c), et_and (et_test (ev_op (ev_var rfl) ev_c rv_I0)) (fun _ => et_test (ev_op (ev_op (ev_var rfl) (ev_var rfl) (rv_item (by omega) hd)) (ev_op (ev_var rfl) (ev_var rfl) (rv_item (by omega) hc)) rv_neC)), fun hb H5 e5 => ?_, fun hb H5 e5 => ?_⟩
      · rw [Bool.and_eq_true, decide_eq_true_eq, Bool.not_eq_true', decide_eq_false_iff_not] at hb
        refine ⟨fun σ2 H2 => ∃ m', m' < m ∧ _, fun _ _ h => h, ?_⟩
        refine s_asg (v := .int (fail x m : Nat)) (ev_op (ev_var rfl) (ev_var rfl) (rv_iL (sq_of (e5 _ _ h4)) (nI_get (backsTo_get (by omega))))) fun H6 e6 => ?_
        exact ⟨fail x m, fail_lt (by omega), rfl, (e4.trans e5).trans e6, e6 _ _ (e5 _ _ h4), D.step (by omega) (by omega) (by rw [hd]; exact fun q => hb.2 (Option.some.inj q))⟩
      · refine s_app (v := .int (fail x (i + 1 + 1) : Nat)) (e5 _ _ h4) (ev_var rfl) (ev_if (b := decide (d = c)) (et_test (ev_op (ev_op (ev_var rfl) (ev_var rfl) (rv_item (by omega) hd)) (ev_op (ev_var rfl) (ev_var rfl) (rv_item (by omega) hc)) rv_eqC)) (fun hq => ?_) (fun hq => ?_)) (by simp [backsTo_len]; omega) fun H6 e6 => ?_
        · have hq := of_decide_eq_true hq
          subst hq
          refine ev_is (ev_op (ev_var rfl) ev_c rv_I0) ?_
          rw [fail_more hc, D.hit (by omega) hd]
          rfl
        · have hq := of_decide_eq_false hq
          have m0 : m = 0 := by
            have : ¬ (0 : Int) < (m : Int) := fun z => by
              rw [decide_eq_true z, decide_eq_false hq] at hb
              exact absurd hb (by decide)
            omega
          subst m0
          refine ev_is ev_c ?_
          rw [fail_more hc, D.miss (by omega) (by rw [hd]; exact fun q => hq (Option.some.inj q))]
          rfl
        · refine ⟨_, _, rfl, Ex.mut ((e4.trans e5).trans e6) hp, ?_⟩
          rw [upd_same, backsTo_more x (i + 1)]
          simp
    · rintro σ' H2 ⟨a, b, rfl, e2, h2⟩
      refine s_ret (ev_var rfl) fun H3 e3 => k p H3 hp (e2.trans e3) ?_
      have e0 : ((x.length : Int) - 1).toNat + 1 = x.length := by omega
      rw [e0] at h2
      exact e3 _ _ h2
theorem scNext : FnScope ["word", "told", "many", "letter"] ["word", "told", "many", "letter"] (defScope sNext) := ⟨rfl, rfl, rfl, by decide +kernel, rfl, by decide +kernel, by decide +kernel⟩
theorem ok_next (T : Tx K mg) (F : L2.Fun K "next_count" "next_count" sNext f fd) : FnOk P w K mg base CX0 1 f fd ["word", "told", "many", "letter"] (spNext K) := by
  refine F.ok scNext (fun vs H Q E h => ?_) (fun cdv A outer s H vs Q E hr h => ?_)
  · obtain ⟨z, ⟨_, _, _, _, rfl, _⟩, _⟩ := h
    rfl
  · obtain ⟨z, ⟨x, told, m, c, rfl, hT, hm, h0, hx, rfl⟩, k⟩ := h
    have nd := scNext.nd
    refine ⟨_, (pss_cons (ps_if (pt_cmpR op_eq (pv 2) (pe_callB call_len_str (by rfl) T.n_len PySem.boot_len (pa_cons (pv 0) pa_nil)) (nomark _))
        (pss_one (ps_set (i := 2) nd rfl (Or.inl rfl) (pe_ix ix_list (pv 1) (pv 2) (fun _ _ => rfl)))) pss_nil)
      (pss_cons (ps_while PassesOwn.never (PW.pt (pw_and (pt_cmpR op_gt (pv 2) pe_int (nomark _)) (pw_and1 (pt_cmpR op_ne (pe_ix ix_str (pv 0) (pv 2) (fun _ _ => rfl)) (pv 3) (nomark _)))))
        (pss_one (ps_set (i := 2) nd rfl (Or.inl rfl) (pe_ix ix_list (pv 1) (pv 2) (fun _ _ => rfl)))))
      (pss_one (ps_ret (pe_ifExp (pt_cmpR op_eq (pe_ix ix_str (pv 0) (pv 2) (fun _ _ => rfl)) (pv 3) (nomark _)) (pe_op op_add (pv 2) pe_int) pe_int))))), ?_⟩
    obtain ⟨m1, em, D1⟩ : ∃ m1 : Nat, (if m = x.length then fail x m else m) = m1 ∧ Desc x (x.take m) c x.length m1 := ⟨_, rfl, by
      by_cases hb : m = x.length
      · rw [if_pos hb, hb]
        exact Desc.of_full h0
      · rw [if_neg hb]
        exact Desc.of_lt (by omega)⟩
    refine q_ifAsg (v := .int (m1 : Int)) (b := decide ((m : Int) = (x.length : Int))) (et_test (ev_op (ev_var rfl) (ev_lenS (ev_var rfl) (by omega)) rv_eqI)) (fun hb => ?_) (fun hb => ?_) fun H1 e1 => ?_
    · have hb := of_decide_eq_true hb
      have hb : m = x.length := by omega
      rw [if_pos hb] at em
      rw [← em]
      exact ev_op (ev_var rfl) (ev_var rfl) (rv_iL hT (nI_get (backsTo_get hm)))
    · have hb := of_decide_eq_false hb
      rw [if_neg (by omega)] at em
      rw [← em]
      rfl
    · refine q_while (fun m1 σ' H' => σ' = [some (.str (S x)), some (.ref told), some (.int (m1 : Int)), some (.str (S [c]))] ∧ Ex H H' ∧ Desc x (x.take m) c x.length m1) m1 ⟨rfl, e1, D1⟩ ?_
      rintro m2 σ' H4 ⟨rfl, e4, D⟩
      have hm := D.lt
      obtain ⟨d, hd⟩ := get_some (show m2 < x.length by omega)
      refine ⟨decide ((0 : Int) < (m2 : Int)) && !decide (d = c), et_and (et_test (ev_op (ev_var rfl) ev_c rv_I0)) (fun _ => et_test (ev_op (ev_op (ev_var rfl) (ev_var rfl) (rv_item (by omega) hd)) (ev_var rfl) rv_neC)), fun hb H5 e5 => ?_, fun hb H5 e5 => ?_⟩
      · rw [Bool.and_eq_true, decide_eq_true_eq, Bool.not_eq_true', decide_eq_false_iff_not] at hb
        refine ⟨fun σ2 H2 => ∃ m', m' < m2 ∧ _, fun _ _ h => h, ?_⟩
        refine s_asg (v := .int (fail x m2 : Nat)) (ev_op (ev_var rfl) (ev_var rfl) (rv_iL (ex_l (e4.trans e5) hT) (nI_get (backsTo_get (by omega))))) fun H6 e6 => ?_
        exact ⟨fail x m2, fail_lt (by omega), rfl, (e4.trans e5).trans e6, D.step (Nat.le_refl _) (by omega) (by rw [hd]; exact fun q => hb.2 (Option.some.inj q))⟩
      · refine s_ret (v := .int (nx x m c : Nat)) (ev_if (b := decide (d = c)) (et_test (ev_op (ev_op (ev_var rfl) (ev_var rfl) (rv_item (by omega) hd)) (ev_var rfl) rv_eqC)) (fun hq => ?_) (fun hq => ?_)) fun H6 e6 => k H6 ((e4.trans e5).trans e6)
        · have hq := of_decide_eq_true hq
          subst hq
          refine ev_is (ev_op (ev_var rfl) ev_c rv_I0) ?_
          unfold nx lng
          rw [D.hit (Nat.le_refl _) hd]
          rfl
        · have hq := of_decide_eq_false hq
          have m0 : m2 = 0 := by
            have : ¬ (0 : Int) < (m2 : Int) := fun z => by
              rw [decide_eq_true z, decide_eq_false hq] at hb
              exact absurd hb (by decide)
            omega
          subst m0
          refine ev_is ev_c ?_
          unfold nx lng
          rw [D.miss (Nat.le_refl _) (by rw [hd]; exact fun q => hq (Option.some.inj q))]
          rfl
end
end Fw

set_option Elab.async false
set_option linter.all false
set_option maxRecDepth 100000
set_option maxHeartbeats 4000000
namespace Fw
open PySem PySem.Spec PyProof.Rows L2 Evl
theorem S_abc : Str.ofString "abcdefghijklmnopqrstuvwxyz" = S (lets 26) := by decide +kernel
theorem lets_get {s k : Nat} (h : k < s) : (lets s)[k]? = some (k + 97) := by
  unfold lets
  rw [List.getElem?_map, List.getElem?_range h]; rfl
theorem over_of {s : Nat} {a b : Wd} (h : Over s a) (hb : ∀ c ∈ b, c ∈ a) : Over s b := fun c hc => h c (hb c hc)
theorem Over.take {s : Nat} {a : Wd} (h : Over s a) (k : Nat) : Over s (a.take k) := over_of h fun _ hc => List.mem_of_mem_take hc
theorem Over.drop {s : Nat} {a : Wd} (h : Over s a) (k : Nat) : Over s (a.drop k) := over_of h fun _ hc => List.mem_of_mem_drop hc
theorem Over.app {s : Nat} {a b : Wd} (h : Over s a) (h2 : Over s b) : Over s (a ++ b) := fun c hc => (List.mem_append.mp hc).elim (h c) (h2 c)
theorem Over.rep {s : Nat} {a : Wd} (h : Over s a) (k : Nat) : Over s (List.replicate k a).flatten := fun c hc => by
  obtain ⟨l, hl, hc⟩ := List.mem_flatten.mp hc
  rw [(List.mem_replicate.mp hl).2] at hc
  exact h c hc
theorem Over.one {s c : Nat} (h : c < s) : Over s [c + 97] := fun d hd => by
  have : d = c + 97 := by simpa using hd
  omega
theorem Over.le {s t : Nat} {a : Wd} (h : Over s a) (hst : s ≤ t) : Over t a := fun c hc => by
  have := h c hc
  omega

/-! ### the law's words -/
abbrev sLawWords : Stmt := top 22
abbrev lawN : List Str := ["_law_script", "_law_mixed", "_law_sides", "_law_letters", "_law_half", "_law_one", "_law_other", "_law_part", "_law_cell"]
/-- what the words drawn are -/
structure Drawn (s : Nat) (a b : Wd) : Prop where
  s2 : 2 ≤ s
  s26 : s ≤ 26
  oa : Over s a
  ob : Over s b
  a0 : 0 < a.length
  b0 : 0 < b.length
  len : a.length + b.length ≤ 66
def spLawWords (K : PySem.W.Frag) : Sp := fun vs H Q _ => ∃ (p : Addr) (ns : List Int), vs = [.ref p] ∧ SqL K H p (iV ns) ∧ ns.length ≤ 63 ∧
  ∀ (s : Nat) (a b : Wd), Drawn s a b → ∀ q H2, H q = none → Ex H H2 → H2 q = some (.tup [.int (s : Int), .str (S a), .str (S b)]) → Q (.ref q) H2
section
variable {P : Program} {w : World} {K : PySem.W.Frag} {mg : Str → Option Value} {base : Heap} {f : Addr} {fd : FuncData}
theorem scLawWords : FnScope lawN ["_law_script"] (defScope sLawWords) := ⟨rfl, rfl, rfl, by decide +kernel, rfl, by decide +kernel, by decide +kernel⟩
theorem fdiv_ok {i : Int} {k : Int} (h : 0 < k ∧ k < 1073741824) : CDiv i k := h
/-- a letter by a reckoned place -/
theorem ev_letter {σ : L2.St} {H : Hp} {ta tb : TE} {s : Nat} {i : Int} (hs : 0 < s) (hs2 : s ≤ 26) (ha : Ev ta σ H (.str (S (lets s)))) (hb : Ev tb σ H (.int (i % (s : Int)))) : Ev (tOp rIxS ta tb) σ H (.str (S [(i % (s : Int)).toNat + 97])) := by
  have h1 := Int.emod_nonneg i (show (s : Int) ≠ 0 by omega)
  have h2 := Int.emod_lt_of_pos i (show (0 : Int) < s by omega)
  obtain ⟨k, hk⟩ := Int.eq_ofNat_of_zero_le h1
  rw [hk] at hb ⊢
  rw [Int.toNat_natCast]
  exact ev_op ha hb (rv_item (by rw [lets_len]; omega) (lets_get (by omega)))
theorem letter_lt {i : Int} {s : Nat} (hs : 0 < s) : (i % (s : Int)).toNat < s := by
  have h1 := Int.emod_nonneg i (show (s : Int) ≠ 0 by omega)
  have h2 := Int.emod_lt_of_pos i (show (0 : Int) < s by omega)
  omega
theorem rv_div {H : Hp} {i k : Int} (h : 0 < k ∧ k < 1073741824) : RV (rI CDiv fun i j => .int (i / j)) (.int i) (.int k) H (.int (i / k)) := rv_I h
theorem rv_mod {H : Hp} {i k : Int} (h : 0 < k) : RV (rI (fun _ j => 0 < j) fun i j => .int (i % j)) (.int i) (.int k) H (.int (i % k)) := rv_I h
theorem ok_law_words (T : Tx K mg) (F : L2.Fun K "_law_words" "_law_words" sLawWords f fd) : FnOk P w K mg base CX0 1 f fd ["_law_script"] (spLawWords K) := by
  refine F.ok scLawWords (fun vs H Q E h => ?_) (fun cdv A outer s H vs Q E hr h => ?_)
  · obtain ⟨_, _, rfl, _⟩ := h
    rfl
  · obtain ⟨p, ns, rfl, hS, hn, k⟩ := h
    have nd := scLawWords.nd
    refine ⟨_, (pss_cons (ps_set (i := 1) nd rfl (Or.inl rfl) (pe_callB (cr_sum rfl) (by rfl) T.n_sum (by decide +kernel) (pa_cons (pv 0) pa_nil))) 
  (pss_cons (ps_set (i := 2) nd rfl (Or.inr rfl) (pe_ix ix_tup (pe_tup (pa_cons pe_int (pa_cons pe_int (pa_cons pe_int (pa_cons (pe_op op_add pe_int (pe_op op_mod (pe_op op_fdiv (pv 1) pe_int) (pe_ifExp (pt_cmpR op_lt (pe_callB call_len_seq (by rfl) T.n_len PySem.boot_len (pa_cons (pv 0) pa_nil)) pe_int (nomark _)) pe_int pe_int))) pa_nil))))) (pe_op op_mod (pv 1) pe_int) (fun _ _ => rfl))) 
  (pss_cons (ps_set (i := 3) nd rfl (Or.inr rfl) (pe_slice sl_str pe_str po_none (po_some (pv 2)))) 
  (pss_cons (ps_set (i := 4) nd rfl (Or.inl rfl) (pe_ifExp (pt_cmpR op_eq (pe_op op_mod (pe_op op_fdiv (pv 1) pe_int) pe_int) pe_int (nomark _)) (pe_op op_fdiv (pe_callB call_len_seq (by rfl) T.n_len PySem.boot_len (pa_cons (pv 0) pa_nil)) pe_int) (pe_op op_mod (pe_op op_fdiv (pv 1) pe_int) (pe_op op_add (pe_callB call_len_seq (by rfl) T.n_len PySem.boot_len (pa_cons (pv 0) pa_nil)) pe_int)))) 
  (pss_cons (ps_set (i := 5) nd rfl (Or.inl rfl) (pe_bm PySem.F.plainAttrs_str PySem.F.slot_str_join PySem.F.type_str_join mt_join pe_str (pa_cons (pe_lc (own := [("_law_cell", 8)]) (g := gName 8) (by rfl) nd (pi_list (pe_slice sl_list (pv 0) po_none (po_some (pv 4)))) (blkOk_by (own := [("_law_cell", 8)]) (N := lawN) (sc := defScope sLawWords) (by decide +kernel)) (fun _ _ _ _ _ => pg_name (i := 8) nd rfl (Or.inl rfl)) (fun _ _ _ _ _ => pts_nil) (fun _ _ _ _ _ => (pe_ix ix_str (pv 3) (pe_op op_mod (pe_op op_fdiv (pv 8) pe_int) (pv 2)) (fun _ _ => rfl)))) pa_nil))) 
  (pss_cons (ps_set (i := 6) nd rfl (Or.inl rfl) (pe_bm PySem.F.plainAttrs_str PySem.F.slot_str_join PySem.F.type_str_join mt_join pe_str (pa_cons (pe_lc (own := [("_law_cell", 8)]) (g := gName 8) (by rfl) nd (pi_list (pe_slice sl_list (pv 0) (po_some (pv 4)) po_none)) (blkOk_by (own := [("_law_cell", 8)]) (N := lawN) (sc := defScope sLawWords) (by decide +kernel)) (fun _ _ _ _ _ => pg_name (i := 8) nd rfl (Or.inl rfl)) (fun _ _ _ _ _ => pts_nil) (fun _ _ _ _ _ => (pe_ix ix_str (pv 3) (pe_op op_mod (pe_op op_fdiv (pv 8) pe_int) (pv 2)) (fun _ _ => rfl)))) pa_nil))) 
  (Evl.pss_cut (ps_if (pt_cmpR op_eq (pe_op op_mod (pe_op op_fdiv (pv 1) pe_int) pe_int) pe_int (nomark _)) 
    (pss_cons (ps_set (i := 7) nd rfl (Or.inl rfl) (pe_op op_add pe_int (pe_op op_mod (pe_op op_fdiv (pv 1) pe_int) pe_int))) 
    (pss_cons (ps_set (i := 5) nd rfl (Or.inl rfl) (pe_slice sl_str (pe_op op_mulS (pe_slice sl_str (pv 5) po_none (po_some (pv 7))) (pe_callB call_len_str (by rfl) T.n_len PySem.boot_len (pa_cons (pv 5) pa_nil))) po_none (po_some (pe_callB call_len_str (by rfl) T.n_len PySem.boot_len (pa_cons (pv 5) pa_nil))))) 
    (pss_one (ps_set (i := 6) nd rfl (Or.inl rfl) (pe_op op_add_str (pe_slice sl_str (pe_op op_mulS (pe_slice sl_str (pv 5) po_none (po_some (pv 7))) (pe_callB call_len_str (by rfl) T.n_len PySem.boot_len (pa_cons (pv 6) pa_nil))) po_none (po_some (pe_callB (call_max2 rfl) (by rfl) T.n_max (by decide +kernel) (pa_cons pe_int (pa_cons (pe_op op_sub (pe_callB call_len_str (by rfl) T.n_len PySem.boot_len (pa_cons (pv 6) pa_nil)) pe_int) pa_nil))))) (pe_ix ix_str (pv 3) (pe_op op_mod (pe_op op_fdiv (pv 1) pe_int) (pv 2)) (fun _ _ => rfl))))))) pss_nil) 
  (pss_one (ps_ret (pe_tup (pa_cons (pv 2) (pa_cons (pe_op op_add_str (pv 5) (pe_ix ix_str (pv 3) (pe_op op_mod (pe_op op_fdiv (pv 1) pe_int) (pv 2)) (fun _ _ => rfl))) (pa_cons (pe_op op_add_str (pv 6) (pe_ix ix_str (pv 3) (pe_op op_mod (pe_op op_fdiv (pv 1) pe_int) (pv 2)) (fun _ _ => rfl))) pa_nil)))))))))))))
      , ?_⟩
    refine q_asg (ev_sum (ev_var rfl) hS) fun H1 e1 => ?_
    generalize ns.sum = M
    -- the sides
    obtain ⟨d, hd, hd0, hd1⟩ : ∃ d : Int, M / 4 % (if decide ((ns.length : Int) < 12) = true then 25 else 5) = d ∧ 0 ≤ d ∧ d < 25 := ⟨_, rfl, by split <;> omega, by split <;> omega⟩
    obtain ⟨s, hs, s2, s26⟩ : ∃ s : Nat, atI [V.int 2, V.int 2, V.int 3, V.int (2 + d)] (M % 4) = some (.int (s : Int)) ∧ 2 ≤ s ∧ s ≤ 26 := by
      have h4 : M % 4 = 0 ∨ M % 4 = 1 ∨ M % 4 = 2 ∨ M % 4 = 3 := by omega
      rcases h4 with h | h | h | h <;> rw [h]
      · exact ⟨2, rfl, by omega, by omega⟩
      · exact ⟨2, rfl, by omega, by omega⟩
      · exact ⟨3, rfl, by omega, by omega⟩
      · refine ⟨(2 + d).toNat, ?_, by omega, by omega⟩
        have : ((2 + d).toNat : Int) = 2 + d := by omega
        rw [this]; rfl
    have hS1 : ∀ {σ : L2.St} {H1 : Hp}, Ex H H1 → Ev (tVar 0) σ H1 (.ref p) → Ev (tCB (rLenS K) (tCons (tVar 0) tNil)) σ H1 (.int (ns.length : Int)) := fun e h => by
      have := ev_len (K := K) h (ex_l e hS)
      rw [List.length_map] at this
      exact this
    refine q_asg (v := .int (s : Int)) (ev_ixU (eu_tup (ea_cons ev_c (ea_cons ev_c (ea_cons ev_c (ea_cons (ev_op (y := .int d) ev_c (ev_is (ev_op (ev_op (ev_var rfl) ev_c (rv_div ⟨by decide, by decide⟩)) (ev_if (v := .int (if decide ((ns.length : Int) < 12) = true then 25 else 5)) (et_test (ev_op (hS1 e1 (ev_var rfl)) ev_c rv_I0)) (fun h => ev_is ev_c (by rw [if_pos h])) (fun h => ev_is ev_c (by rw [if_neg (by rw [h]; exact Bool.false_ne_true)]))) (rv_mod (by split <;> decide))) (by rw [hd])) rv_I0) ea_nil)))) (by show 4 ≤ 100000; decide)) (ev_op (ev_var rfl) ev_c (rv_mod (by decide))) hs) fun H2 e2 => ?_
    refine q_asg (v := .str (S (lets s))) (ev_is (v := .str (S ((lets 26).take s))) (ev_to (ev_is ev_c (by rw [S_abc])) (eo_is (ev_var rfl) rfl) (by rw [let26_len]; omega)) (by rw [lets_take s26])) fun H3 e3 => ?_
    have e13 := (e1.trans e2).trans e3
    -- where they are parted
    obtain ⟨hf, hhf, hfl⟩ : ∃ hf : Nat, (if decide (M / 13 % 3 = 0) = true then (ns.length : Int) / 2 else M / 39 % ((ns.length : Int) + 1)) = (hf : Int) ∧ hf ≤ ns.length := by
      split
      · exact ⟨ns.length / 2, by omega, by omega⟩
      · have h1 := Int.emod_nonneg (M / 39) (show ((ns.length : Int) + 1) ≠ 0 by omega)
        have h2 := Int.emod_lt_of_pos (M / 39) (show (0 : Int) < (ns.length : Int) + 1 by omega)
        exact ⟨(M / 39 % ((ns.length : Int) + 1)).toNat, by omega, by omega⟩
    refine q_asg (v := .int (hf : Int)) (ev_if (et_test (ev_op (ev_op (ev_op (ev_var rfl) ev_c (rv_div ⟨by decide, by decide⟩)) ev_c (rv_mod (by decide))) ev_c rv_eqI)) (fun h => ev_is (ev_op (hS1 e13 (ev_var rfl)) ev_c (rv_div ⟨by decide, by decide⟩)) (by rw [if_pos h] at hhf; rw [hhf])) (fun h => ev_is (ev_op (ev_op (ev_var rfl) ev_c (rv_div ⟨by decide, by decide⟩)) (ev_op (hS1 e13 (ev_var rfl)) ev_c rv_I0) (rv_mod (by omega))) (by rw [if_neg (by rw [h]; exact Bool.false_ne_true)] at hhf; rw [hhf]))) fun H4 e4 => ?_
    have e14 := e13.trans e4
    let lt : Int → Nat := fun n => (n / 3 % (s : Int)).toNat + 97
    have hlt : ∀ n, Over s [lt n] := fun n => Over.one (letter_lt (by omega))
    have hov : ∀ l : List Int, Over s (l.map lt) := fun l c hc => by
      obtain ⟨n, _, rfl⟩ := List.mem_map.mp hc
      exact hlt n _ (by simp)
    refine q_asg (v := .str (S ((ns.take hf).map lt))) (ev_join S_empty (by
      rw [List.map_map]
      exact el_lcV (fun n => V.str (S [lt n])) (el_to (ev_var rfl) (eo_is (ev_var rfl) rfl) (ex_l e14 hS)) (by rw [List.length_take]; omega) (fun _ => rfl) fun n _ H5 e5 => ev_letter (by omega) s26 (ev_var rfl) (ev_op (ev_op (ev_var rfl) ev_c (rv_div ⟨by decide, by decide⟩)) (ev_var rfl) (rv_mod (by omega)))) (by rw [List.length_map, List.length_take]; omega)) fun H5 e5 => ?_
    have e15 := e14.trans e5
    refine q_asg (v := .str (S ((ns.drop hf).map lt))) (ev_join S_empty (by
      rw [List.map_map]
      exact el_lcV (fun n => V.str (S [lt n])) (el_from (ev_var rfl) (eo_is (ev_var rfl) rfl) (ex_l e15 hS)) (by rw [List.length_drop]; omega) (fun _ => rfl) fun n _ H5 e5 => ev_letter (by omega) s26 (ev_var rfl) (ev_op (ev_op (ev_var rfl) ev_c (rv_div ⟨by decide, by decide⟩)) (ev_var rfl) (rv_mod (by omega)))) (by rw [List.length_map, List.length_drop]; omega)) fun H6 e6 => ?_
    have e16 := e15.trans e6
    generalize hA : (ns.take hf).map lt = a
    generalize hB : (ns.drop hf).map lt = b
    have oa : Over s a := by rw [← hA]; exact hov _
    have ob : Over s b := by rw [← hB]; exact hov _
    have la : a.length = hf := by rw [← hA, List.length_map, List.length_take]; omega
    have lb : b.length = ns.length - hf := by rw [← hB, List.length_map, List.length_drop]
    refine Evl.q_cut (M := fun σ' H' => ∃ (a b : Wd) (x y : Option V), σ' = [some (.ref p), some (.int M), some (.int (s : Int)), some (.str (S (lets s))), some (.int (hf : Int)), some (.str (S a)), some (.str (S b)), x, y] ∧ Over s a ∧ Over s b ∧ a.length + b.length ≤ 64 ∧ Ex H H')
      (s_when (et_test (ev_op (ev_op (ev_op (ev_var rfl) ev_c (rv_div ⟨by decide, by decide⟩)) ev_c (rv_mod (by decide))) ev_c rv_eqI)) (fun hb H7 e7 => ?_) (fun hb H7 e7 => ⟨a, b, none, none, rfl, oa, ob, by omega, e16.trans e7⟩)) ?_
    · obtain ⟨g, hg, g1, g4⟩ : ∃ g : Nat, 1 + M / 20 % 4 = (g : Int) ∧ 1 ≤ g ∧ g ≤ 4 := ⟨(1 + M / 20 % 4).toNat, by omega, by omega, by omega⟩
      refine q_asg (v := .int (g : Int)) (ev_is (ev_op ev_c (ev_op (ev_op (ev_var rfl) ev_c (rv_div ⟨by decide, by decide⟩)) ev_c (rv_mod (by decide))) rv_I0) (by rw [hg])) fun H8 e8 => ?_
      have hg4 : ∀ (c : Wd) (n : Nat), n ≤ 63 → (c.take g).length * n ≤ 252 := fun c n h => by
        have h1 : (c.take g).length ≤ 4 := by rw [List.length_take]; omega
        exact Nat.le_trans (Nat.mul_le_mul h1 h) (by decide)
      have rl : ∀ (c : Wd) (n : Nat), ((List.replicate n (c.take g)).flatten).length = n * (c.take g).length := fun c n => by
        rw [List.length_flatten, List.map_replicate, List.sum_replicate_nat]
      refine q_asg (v := .str (S (((List.replicate a.length (a.take g)).flatten).take a.length))) (ev_to (ev_op (ev_to (ev_var rfl) (eo_is (ev_var rfl) rfl) (by omega)) (ev_lenS (ev_var rfl) (by omega)) (rv_mulS (by omega) (Nat.le_trans (hg4 _ _ (by omega)) (by omega)))) (eo_is (ev_lenS (ev_var rfl) (by omega)) rfl) (by rw [rl, Nat.mul_comm]; exact Nat.le_trans (hg4 _ _ (by omega)) (by omega))) fun H9 e9 => ?_
      generalize hA2 : ((List.replicate a.length (a.take g)).flatten).take a.length = a2
      have oa2 : Over s a2 := by rw [← hA2]; exact ((oa.take g).rep _).take _
      have la2 : a2.length ≤ hf := by rw [← hA2, List.length_take]; omega
      refine s_asg (v := .str (S (((List.replicate b.length (a2.take g)).flatten).take (b.length - 1) ++ [(M / 80 % (s : Int)).toNat + 97]))) (ev_op (ev_to (ev_op (ev_to (ev_var rfl) (eo_is (ev_var rfl) rfl) (by omega)) (ev_lenS (ev_var rfl) (by omega)) (rv_mulS (by omega) (Nat.le_trans (hg4 _ _ (by omega)) (by omega)))) (eo_is (ev_max2 ev_c (ev_op (ev_lenS (ev_var rfl) (by omega)) ev_c rv_I0)) (by split <;> omega)) (by rw [rl, Nat.mul_comm]; exact Nat.le_trans (hg4 _ _ (by omega)) (by omega))) (ev_letter (by omega) s26 (ev_var rfl) (ev_op (ev_op (ev_var rfl) ev_c (rv_div ⟨by decide, by decide⟩)) (ev_var rfl) (rv_mod (by omega)))) (rv_addS (by
        rw [List.length_take, List.length_singleton]; omega))) fun H10 e10 => ?_
      exact ⟨a2, _, _, _, rfl, oa2, (((oa2.take g).rep _).take _).app (Over.one (letter_lt (by omega))), by rw [List.length_append, List.length_take, List.length_singleton]; omega, (((e16.trans e7).trans e8).trans e9).trans e10⟩
    · rintro σ' H7 ⟨a, b, x, y, rfl, oa, ob, hl, e7⟩
      refine s_retU (eu_tup (ea_cons (ev_var rfl) (ea_cons (ev_op (ev_var rfl) (ev_letter (by omega) s26 (ev_var rfl) (ev_op (ev_op (ev_var rfl) ev_c (rv_div ⟨by decide, by decide⟩)) (ev_var rfl) (rv_mod (by omega)))) (rv_addS (by rw [List.length_singleton]; omega))) (ea_cons (ev_op (ev_var rfl) (ev_letter (by omega) s26 (ev_var rfl) (ev_op (ev_op (ev_var rfl) ev_c (rv_div ⟨by decide, by decide⟩)) (ev_var rfl) (rv_mod (by omega)))) (rv_addS (by rw [List.length_singleton]; omega))) ea_nil))) (by show 3 ≤ 100000; decide)) fun q H8 hq e8 h8 => ?_
      exact k s _ _ ⟨s2, s26, oa.app (Over.one (letter_lt (by omega))), ob.app (Over.one (letter_lt (by omega))), by rw [List.length_append, List.length_singleton]; omega, by rw [List.length_append, List.length_singleton]; omega,
        by rw [List.length_append, List.length_append, List.length_singleton, List.length_singleton]; omega⟩ q H8 (fresh_back e7 hq) (e7.trans e8) h8
end
end Fw

set_option Elab.async false
set_option linter.all false
set_option maxRecDepth 100000
set_option maxHeartbeats 4000000
namespace Fw
open PySem PySem.Spec PyProof.Rows L2 Evl
/-! ### the law's own looks -/
abbrev sLongest : Stmt := top 23
def spLongest : Sp := PV fun vs H z => ∃ w t : Wd, vs = [.str (S w), .str (S t)] ∧ w.length ≤ 1000 ∧ t.length ≤ 1000 ∧ z = .int (lng w t : Nat)
theorem suf_drop {w t : Wd} {k : Nat} (h1 : k ≤ w.length) (h2 : k ≤ t.length) : w.take k <:+ t ↔ t.drop (t.length - k) = w.take k := by
  rw [List.suffix_iff_eq_drop, take_len h1]
  exact ⟨fun h => h.symm, fun h => h.symm⟩
section
variable {P : Program} {w : World} {K : PySem.W.Frag} {mg : Str → Option Value} {base : Heap} {f : Addr} {fd : FuncData}
theorem scLongest : FnScope ["_law_word", "_law_throws", "_law_many"] ["_law_word", "_law_throws"] (defScope sLongest) := ⟨rfl, rfl, rfl, by decide +kernel, rfl, by decide +kernel, by decide +kernel⟩
theorem ok_longest (T : Tx K mg) (F : L2.Fun K "_law_longest" "_law_longest" sLongest f fd) : FnOk P w K mg base CX0 1 f fd ["_law_word", "_law_throws"] spLongest := by
  refine F.ok scLongest (fun vs H Q E h => ?_) (fun cdv A outer s H vs Q E hr h => ?_)
  · obtain ⟨z, ⟨_, _, rfl, _⟩, _⟩ := h
    rfl
  · obtain ⟨z, ⟨x, t, rfl, hx, ht, rfl⟩, k⟩ := h
    have nd := scLongest.nd
    refine ⟨_, (pss_cons (ps_for PassesOwn.never rfl (pi_range3 (by rfl) T.n_range (pa_cons (pe_callB (call_min2 rfl) (by rfl) T.n_min (by decide +kernel) (pa_cons (pe_callB call_len_str (by rfl) T.n_len PySem.boot_len (pa_cons (pv 0) pa_nil)) (pa_cons (pe_callB call_len_str (by rfl) T.n_len PySem.boot_len (pa_cons (pv 1) pa_nil)) pa_nil))) (pa_cons pe_int (pa_cons (pe_un un_neg pe_int) pa_nil)))) (pg_name (i := 2) nd rfl (Or.inl rfl)) 
    (pss_one (ps_if (pt_cmpR op_eq (pe_slice sl_str (pv 1) (po_some (pe_op op_sub (pe_callB call_len_str (by rfl) T.n_len PySem.boot_len (pa_cons (pv 1) pa_nil)) (pv 2))) po_none) (pe_slice sl_str (pv 0) po_none (po_some (pv 2))) (nomark _)) 
      (pss_one (ps_ret (pv 2))) pss_nil))) 
  (pss_one (ps_ret pe_int))), ?_⟩
    have hm : (if ((t.length : Int) < (x.length : Int)) then (t.length : Int) else (x.length : Int)) = ((min x.length t.length : Nat) : Int) := by split <;> omega
    refine q_forR3 (lo := ((min x.length t.length : Nat) : Int)) (ea_cons (ev_is (ev_min2 (ev_lenS (ev_var rfl) (by omega)) (ev_lenS (ev_var rfl) (by omega))) (by rw [hm])) (ea_cons ev_c (ea_cons (ev_un ev_c ru_neg) ea_nil)))
      (RgC.neg (by omega) (by omega) (by omega) (by omega)) (fun i σ' H' => ∃ a, σ' = [some (.str (S x)), some (.str (S t)), a] ∧ Ex H H' ∧ i ≤ min x.length t.length ∧ ∀ k, min x.length t.length - i < k → k ≤ min x.length t.length → ¬ x.take k <:+ t)
      (fun H1 e1 => ⟨none, rfl, e1, Nat.zero_le _, fun k h1 h2 => by omega⟩) ?_ ?_
    · rintro i σ' H1 hi ⟨a, rfl, e1, hi2, hno⟩
      have hi3 : i < min x.length t.length := by omega
      obtain ⟨j, hj⟩ : ∃ j, j = min x.length t.length - i := ⟨_, rfl⟩
      have e0 : ((min x.length t.length : Nat) : Int) + (i : Int) * -(1 : Int) = (j : Int) := by omega
      rw [e0]
      have sd := suf_drop (w := x) (t := t) (k := j) (by omega) (by omega)
      refine s_when (b := decide (t.drop (t.length - j) = x.take j)) (et_test (ev_op (ev_from (ev_var rfl) (eo_is (ev_op (ev_lenS (ev_var rfl) (by omega)) (ev_var rfl) rv_I0) (by omega)) (by omega)) (ev_to (ev_var rfl) (eo_is (ev_var rfl) rfl) (by omega)) rv_eqS)) (fun hb H2 e2 => ?_) (fun hb H2 e2 => ?_)
      · have hb := sd.mpr (of_decide_eq_true hb)
        refine s_ret (v := .int (lng x t : Nat)) (ev_is (ev_var rfl) ?_) fun H3 e3 => k H3 ((e1.trans e2).trans e3)
        rw [← lng_min, lg_uniq (r := j) (by omega) hb fun k h1 h2 => hno k (by omega) h2]
      · refine ⟨_, rfl, e1.trans e2, by omega, fun k h1 h2 => ?_⟩
        by_cases e : k = j
        · subst e
          exact fun z => of_decide_eq_false hb (sd.mp z)
        · exact hno k (by omega) h2
    · rintro σ' H1 ⟨a, rfl, e1, hi2, hno⟩
      refine s_ret (v := .int (lng x t : Nat)) (ev_is ev_c ?_) fun H3 e3 => k H3 (e1.trans e3)
      rw [← lng_min, lg_uniq (r := 0) (by omega) (by simp) fun k h1 h2 => hno k (by omega) h2]
      rfl
abbrev sNumbers : Stmt := top 24
abbrev lawNN : List Str := ["_law_found", "_law_one"]
def spNumbers : Sp := PV fun vs H z => ∃ (p : Addr) (ns : List Int), vs = [.ref p] ∧ H p = some (.lst (iV ns)) ∧ ns.length ≤ 40000 ∧ z = .bl true
theorem scNumbers : FnScope lawNN ["_law_found"] (defScope sNumbers) := ⟨rfl, rfl, rfl, by decide +kernel, rfl, by decide +kernel, by decide +kernel⟩
theorem ok_numbers (T : Tx K mg) (F : L2.Fun K "_law_numbers" "_law_numbers" sNumbers f fd) : FnOk P w K mg base CX0 1 f fd ["_law_found"] spNumbers := by
  refine F.ok scNumbers (fun vs H Q E h => ?_) (fun cdv A outer s H vs Q E hr h => ?_)
  · obtain ⟨z, ⟨_, _, rfl, _⟩, _⟩ := h
    rfl
  · obtain ⟨z, ⟨p, ns, rfl, hp, hn, rfl⟩, k⟩ := h
    have nd := scNumbers.nd
    refine ⟨_, (pss_cons (ps_if (pt_not (pt_val (pe_callB (r := rIsi K) (id := "isinstance") call_isi (by rfl) T.n_isinstance (by decide +kernel) (pa_cons (pv 0) (pa_cons (pe_ty "list" T.n_list) pa_nil))))) 
    (pss_one (ps_ret pe_bl)) pss_nil) 
  (pss_one (ps_ret (pe_callB (cr_all rfl) (by rfl) T.n_all (by decide +kernel) (pa_cons (pe_lc (own := [("_law_one", 1)]) (g := gName 1) (by rfl) nd (pi_list (pv 0)) (blkOk_by (own := [("_law_one", 1)]) (N := lawNN) (sc := defScope sNumbers) (by decide +kernel)) (fun _ _ _ _ _ => pg_name (i := 1) nd rfl (Or.inl rfl)) (fun _ _ _ _ _ => pts_nil) (fun _ _ _ _ _ => (pe_and (pe_callB (r := rIsi K) (id := "isinstance") call_isi (by rfl) T.n_isinstance (by decide +kernel) (pa_cons (pv 1) (pa_cons (pe_ty "int" T.n_int) pa_nil))) (pe_one (pe_not (pe_callB (r := rIsi K) (id := "isinstance") call_isi (by rfl) T.n_isinstance (by decide +kernel) (pa_cons (pv 1) (pa_cons (pe_ty "bool" T.n_bool) pa_nil)))))))) pa_nil))))), ?_⟩
    refine q_not (K := K) (et_is (et_not (et_B (ev_isi (K := K) (t := "list") (b := true) (ev_var rfl) (fun H1 e => ty_lst (e _ _ hp)) (by decide +kernel)))) rfl) fun H1 e1 => ?_
    refine s_ret (ev_is (ev_allN (K := K) (bs := ns.map fun _ => true) ?_) (by
      congr 1
      rw [List.all_eq_true]
      intro b hb
      obtain ⟨_, _, rfl⟩ := List.mem_map.mp hb
      rfl)) fun H2 e2 => k H2 (e1.trans e2)
    rw [List.map_map]
    exact el_lcS (a := V.int) (fun _ => V.bl true) (ev_var rfl) (sq_of (e1 _ _ hp)) hn (fun _ => rfl) fun n _ H3 e3 =>
      ev_andV (b := true) (a := true) (ev_isi (K := K) (t := "int") (ev_var rfl) (fun _ _ => ty_int) (by decide +kernel)) fun _ => ev_notV (ev_isi (K := K) (t := "int") (b := false) (ev_var rfl) (fun _ _ => ty_int) (by decide +kernel))
end
end Fw

set_option Elab.async false
set_option linter.all false
set_option maxRecDepth 100000
set_option maxHeartbeats 4000000
namespace Fw
open PySem PySem.Spec PyProof.Rows L2 Evl
theorem at0_get {T : List Int} {k : Nat} (h : k < T.length) : T[k]? = some (at0 T k) := by
  unfold at0
  rw [List.getD_eq_getElem?_getD, List.getElem?_eq_getElem h]
  rfl
theorem rv_iT {K : PySem.W.Frag} {H : Hp} {p : Addr} {T : List Int} {k : Nat} (h : SqL K H p (iV T)) (hk : k < T.length) : RV (rIxL K) (.ref p) (.int (k : Int)) H (.int (at0 T k)) := rv_iL h (at0_get hk)
/-! ### numbers and sides -/
abbrev sIsNumber : Stmt := top 6
abbrev sAskedSides : Stmt := top 8
abbrev sWorths : Stmt := top 19
def spIsNumber : Sp := PV fun vs H z => ∃ n a b : Int, vs = [.int n, .int a, .int b] ∧ z = .bl (decide (a ≤ n) && decide (n ≤ b))
def spAskedSides : Sp := PV fun vs H z => ∃ s : Nat, vs = [.int (s : Int)] ∧ 2 ≤ s ∧ s ≤ 26 ∧ z = .non
def wths (s : Int) (w : Wd) (n : Nat) : List Int := (List.range (n + 1)).map (wth s w)
theorem wths_len (s : Int) (w : Wd) (n : Nat) : (wths s w n).length = n + 1 := by simp [wths]
theorem wths_get {s : Int} {w : Wd} {n k : Nat} (h : k ≤ n) : (wths s w n)[k]? = some (wth s w k) := by
  unfold wths
  rw [List.getElem?_map, List.getElem?_range (by omega)]; rfl
theorem wths_more (s : Int) (w : Wd) (n : Nat) : wths s w (n + 1) = wths s w n ++ [wth s w (n + 1)] := by
  unfold wths
  rw [List.range_succ, List.map_append]; rfl
theorem tabl_wths (s : Int) (w : Wd) : (wths s w w.length).map (fun n => V.int (wth s w w.length - n)) = iV (tabl s w) := by
  unfold wths tabl iV
  rw [List.map_map, List.map_map]
  rfl
def spWorths : Sp := PL fun vs H xs => ∃ (s : Nat) (w : Wd), vs = [.int (s : Int), .str (S w)] ∧ s ≤ 26 ∧ 0 < w.length ∧ w.length ≤ 1000 ∧ xs = iV (wths s w w.length)
section
variable {P : Program} {w : World} {K : PySem.W.Frag} {mg : Str → Option Value} {base : Heap} {f : Addr} {fd : FuncData}
theorem scIsNumber : FnScope ["thing", "least", "most"] ["thing", "least", "most"] (defScope sIsNumber) := ⟨rfl, rfl, rfl, by decide +kernel, rfl, by decide +kernel, by decide +kernel⟩
theorem ok_is_number (T : Tx K mg) (F : L2.Fun K "is_number" "is_number" sIsNumber f fd) : FnOk P w K mg base CX0 1 f fd ["thing", "least", "most"] spIsNumber := by
  refine F.ok scIsNumber (fun vs H Q E h => ?_) (fun cdv A outer s H vs Q E hr h => ?_)
  · obtain ⟨z, ⟨_, _, _, rfl, _⟩, _⟩ := h
    rfl
  · obtain ⟨z, ⟨n, a, b, rfl, rfl⟩, k⟩ := h
    refine ⟨_, (pss_one (ps_ret (pe_and (pe_callB (r := rIsi K) (id := "isinstance") call_isi (by rfl) T.n_isinstance (by decide +kernel) (pa_cons (pv 0) (pa_cons (pe_ty "int" T.n_int) pa_nil))) (pe_and (pe_not (pe_callB (r := rIsi K) (id := "isinstance") call_isi (by rfl) T.n_isinstance (by decide +kernel) (pa_cons (pv 0) (pa_cons (pe_ty "bool" T.n_bool) pa_nil)))) (pe_one (pe_chain op_le op_le (pv 1) (pv 0) (pv 2))))))), ?_⟩
    refine s_ret (v := .bl (true && (true && (decide (a ≤ n) && decide (n ≤ b))))) (ev_andV (ev_isi (K := K) (t := "int") (ev_var rfl) (fun _ _ => ty_int) (by decide +kernel)) fun _ => ev_andV (ev_is (ev_notV (ev_isi (K := K) (t := "int") (b := false) (ev_var rfl) (fun _ _ => ty_int) (by decide +kernel))) rfl) fun _ => ev_chainI (ev_var rfl) (ev_var rfl) (ev_var rfl)) k
theorem scAskedSides : FnScope ["sides"] ["sides"] (defScope sAskedSides) := ⟨rfl, rfl, rfl, by decide +kernel, rfl, by decide +kernel, by decide +kernel⟩
theorem ev_26' {σ : L2.St} {H : Hp} : Ev (tCB rLenT (tCons (tC (.str (S (lets 26)))) tNil)) σ H (.int (26 : Int)) := ev_lenS (w := lets 26) ev_c (by decide)
theorem ok_asked_sides (T : Tx K mg) (F : L2.Fun K "asked_sides" "asked_sides" sAskedSides f fd) (C_is_number : Ca P w K mg base 1 "is_number" spIsNumber) : FnOk P w K mg base CX0 2 f fd ["sides"] spAskedSides := by
  refine F.ok scAskedSides (fun vs H Q E h => ?_) (fun cdv A outer s H vs Q E hr h => ?_)
  · obtain ⟨z, ⟨_, rfl, _⟩, _⟩ := h
    rfl
  · obtain ⟨z, ⟨s, rfl, s2, s26, rfl⟩, k⟩ := h
    have hr : Room 1 _ := hr
    refine ⟨_, (pss_one (ps_if (pt_not (pt_val (pe_ca C_is_number hr (pa_cons (pv 0) (pa_cons pe_int (pa_cons (pe_callB call_len_str (by rfl) T.n_len PySem.boot_len (pa_cons (pe_gcn T.g_LETTERS) pa_nil)) pa_nil)))))) 
    (pss_one ps_never) pss_nil)), ?_⟩
    refine s_not (K := K) (et_is (et_not (et_B (ev_pv (z := .bl true) (ea_cons (ev_var rfl) (ea_cons ev_c (ea_cons ev_26' ea_nil))) fun _ _ => ⟨s, 2, 26, rfl, ?_⟩))) rfl) k
    rw [decide_eq_true (show (2 : Int) ≤ (s : Int) by omega), decide_eq_true (show (s : Int) ≤ 26 by omega)]
    rfl
theorem scWorths : FnScope ["sides", "word", "told", "found", "power", "many"] ["sides", "word"] (defScope sWorths) := ⟨rfl, rfl, rfl, by decide +kernel, rfl, by decide +kernel, by decide +kernel⟩
theorem ok_worths (T : Tx K mg) (F : L2.Fun K "worths" "worths" sWorths f fd) (C_backs : Ca P w K mg base 1 "backs" spBacks) : FnOk P w K mg base CX0 2 f fd ["sides", "word"] spWorths := by
  refine F.ok scWorths (fun vs H Q E h => ?_) (fun cdv A outer s H vs Q E hr h => ?_)
  · obtain ⟨z, ⟨_, _, rfl, _⟩, _⟩ := h
    rfl
  · obtain ⟨z, ⟨s, x, rfl, hs, h0, hx, rfl⟩, k⟩ := h
    have hr : Room 1 _ := hr
    have nd := scWorths.nd
    refine ⟨_, (pss_cons (ps_set (i := 2) nd rfl (Or.inl rfl) (pe_ca C_backs hr (pa_cons (pv 1) pa_nil))) 
  (pss_cons (ps_set (i := 3) nd rfl (Or.inl rfl) (pe_lst (pa_cons pe_int pa_nil))) 
  (pss_cons (ps_set (i := 4) nd rfl (Or.inl rfl) pe_int) 
  (pss_cons (ps_for PassesOwn.never rfl (pi_range2 (by rfl) T.n_range (pa_cons pe_int (pa_cons (pe_op op_add (pe_callB call_len_str (by rfl) T.n_len PySem.boot_len (pa_cons (pv 1) pa_nil)) pe_int) pa_nil))) (pg_name (i := 5) nd rfl (Or.inl rfl)) 
    (pss_cons (ps_set (i := 4) nd rfl (Or.inl rfl) (pe_op op_mul (pv 4) (pv 0))) 
    (pss_one (ps_expr (pe_bm PySem.F.plainAttrs_list PySem.F.slot_list_append PySem.F.type_list_append mt_append (pv 3) (pa_cons (pe_op op_add (pv 4) (pe_ix ix_list (pv 3) (pe_ix ix_list (pv 2) (pv 5) (fun _ _ => rfl)) (fun _ _ => rfl))) pa_nil)))))) 
  (pss_one (ps_ret (pv 3))))))), ?_⟩
    refine q_asgL (el_pl (ea_cons (ev_var rfl) ea_nil) fun _ _ => ⟨x, rfl, h0, hx, rfl⟩) fun p H1 hp e1 h1 => ?_
    refine q_asgL (xs := iV (wths s x 0)) (el_lst (ea_cons ev_c ea_nil) (by show 1 ≤ 100000; decide)) fun q H2 hq e2 h2 => ?_
    have hq0 : H q = none := fresh_back e1 hq
    have npq : p ≠ q := ne_of_none h1 hq
    refine q_asg ev_c fun H3 e3 => ?_
    refine q_forR2 (lo := 1) (n := (x.length : Int) + 1) (ea_cons ev_c (ea_cons (ev_op (ev_lenS (ev_var rfl) (by omega)) ev_c rv_I0) ea_nil)) ⟨by omega, by omega, by omega, by omega⟩
      (fun i σ' H' => ∃ a, σ' = [some (.int (s : Int)), some (.str (S x)), some (.ref p), some (.ref q), some (.int ((s : Int) ^ i)), a] ∧ Ex H H' ∧ H' p = some (.lst (iV (nI (backsTo x x.length)))) ∧ H' q = some (.lst (iV (wths s x i))))
      (fun H4 e4 => ⟨none, by rw [Int.pow_zero]; rfl, ((e1.trans e2).trans e3).trans e4, e4 _ _ (e3 _ _ (e2 _ _ h1)), e4 _ _ (e3 _ _ h2)⟩) ?_ ?_
    · rintro i σ' H4 hi ⟨a, rfl, e4, h4p, h4q⟩
      have e0 : (1 : Int) + (i : Int) = ((i + 1 : Nat) : Int) := by omega
      rw [e0]
      refine q_asg (v := .int ((s : Int) ^ (i + 1))) (ev_is (ev_op (ev_var rfl) (ev_var rfl) (rv_mulR (by omega))) (by rw [Int.pow_succ])) fun H5 e5 => ?_
      have hf := fail_lt (w := x) (show 0 < i + 1 by omega)
      refine s_app (v := .int (wth s x (i + 1))) (e5 _ _ h4q) (ev_var rfl) (ev_is (ev_op (ev_var rfl) (ev_op (ev_var rfl) (ev_op (ev_var rfl) (ev_var rfl) (rv_iL (sq_of (e5 _ _ h4p)) (nI_get (backsTo_get (by omega))))) (rv_iL (sq_of (e5 _ _ h4q)) (wths_get (by omega)))) rv_I0) (by rw [wth_more (s := (s : Int)) (w := x) (k := i + 1) (by omega) (by omega)])) (by rw [List.length_map, wths_len]; omega) fun H6 e6 => ?_
      refine ⟨_, rfl, Ex.mut ((e4.trans e5).trans e6) hq0, ?_, ?_⟩
      · rw [upd_ne npq]
        exact e6 _ _ (e5 _ _ h4p)
      · rw [upd_same, wths_more]
        simp
    · rintro σ' H4 ⟨a, rfl, e4, h4p, h4q⟩
      refine s_ret (ev_var rfl) fun H5 e5 => k q H5 hq0 (e4.trans e5) ?_
      have e0 : ((x.length : Int) + 1 - 1).toNat = x.length := by omega
      rw [e0] at h4q
      exact e5 _ _ h4q
end
end Fw

set_option Elab.async false
set_option linter.all false
set_option maxRecDepth 100000
set_option maxHeartbeats 4000000
namespace Fw
open PySem PySem.Spec PyProof.Rows L2 Evl
/-! ### Wait -/
abbrev sWaitInit : Stmt := inClass (top 14) 0
abbrev sWaitShows : Stmt := inClass (top 14) 1
abbrev sWaits : Stmt := top 20
/-- the field of a Wait -/
def wf (q : Addr) : List (Str × V) := putF "table" (.ref q) []
theorem wf_table (q : Addr) : (wf q).lookup ("table" : Str) = some (.ref q) := by
  unfold wf
  rw [lookup_putF, if_pos rfl]
theorem wf_no (q : Addr) {m : Str} (h : ¬ m = "table") : (wf q).lookup m = none := by
  unfold wf
  rw [lookup_putF, if_neg h]
  rfl
/-- what the top has left of the class -/
structure TxW (K : PySem.W.Frag) (mg : Str → Option Value) (C : Addr) : Prop where
  cl : Cls K C
  nT : NoAttr K C "table"
def spWaitInit (C : Addr) : Sp := fun vs H Q _ => ∃ (x l dx : Addr) (T : List Int) , vs = [.ref x, .ref l] ∧ H x = some (.ins C dx []) ∧ (∀ q, H q = none → Q .non (upd (upd H q (.lst (iV T))) x (.ins C dx (wf q)))) ∧ H l = some (.lst (iV T))
def spWaitShows (C : Addr) : Sp := PV fun vs H z => ∃ (p dx q : Addr) (T : List Int) (s : Nat) (w : Wd), vs = [.ref p, .int (s : Int), .str (S w)] ∧ H p = some (.ins C dx (wf q)) ∧ H q = some (.lst (iV T)) ∧ T.length ≤ 10000 ∧ 2 ≤ s ∧ s ≤ 26 ∧ 0 < w.length ∧ w.length ≤ 1000 ∧ z = .bl (decide (IsTab s w T))
def spWaits (C : Addr) : Sp := fun vs H Q _ => ∃ (s : Nat) (w : Wd), vs = [.int (s : Int), .str (S w)] ∧ 2 ≤ s ∧ s ≤ 26 ∧ 0 < w.length ∧ w.length ≤ 1000 ∧ Over s w ∧
  ∀ (p q dx : Addr) (H2 : Hp), H p = none → H q = none → p ≠ q → Ex H H2 → H2 p = some (.ins C dx (wf q)) → H2 q = some (.lst (iV (tabl s w))) → Q (.ref p) H2
section
variable {P : Program} {w : World} {K : PySem.W.Frag} {mg : Str → Option Value} {base : Heap} {f C : Addr} {fd : FuncData}
theorem scWaitInit : FnScope ["self", "table"] ["self", "table"] (defScope sWaitInit) := ⟨rfl, rfl, rfl, by decide +kernel, rfl, by decide +kernel, by decide +kernel⟩
theorem ok_wait_init (T : Tx K mg) (TW : TxW K mg C) (F : L2.Fun K "__init__" "Wait.__init__" sWaitInit f fd) : FnOk P w K mg base CX0 1 f fd ["self", "table"] (spWaitInit C) := by
  refine F.ok scWaitInit (fun vs H Q E h => ?_) (fun cdv A outer s H vs Q E hr h => ?_)
  · obtain ⟨_, _, _, _, rfl, _⟩ := h
    rfl
  · obtain ⟨x, l, dx, T', rfl, hx, k, hl⟩ := h
    refine ⟨_, (pss_one (ps_fld (pv 0) (pe_callTy call_list_of (by rfl) T.n_list (by decide +kernel) (pa_cons (pv 1) pa_nil)) rfl)), ?_⟩
    refine ⟨_, rfl, l, _, rfl, Or.inl (sq_of hl), fun q hq => ?_⟩
    exact ⟨_, rfl, x, C, dx, [], rfl, (upd_ne (ne_of_none hx hq)).trans hx, TW.cl, TW.nT, by show 0 < 1000; decide, k q hq⟩
abbrev showN : List Str := ["self", "sides", "word", "told", "many", "later", "letter"]
theorem scWaitShows : FnScope showN ["self", "sides", "word"] (defScope sWaitShows) := ⟨rfl, rfl, rfl, by decide +kernel, rfl, by decide +kernel, by decide +kernel⟩
theorem ok_wait_shows (T : Tx K mg) (TW : TxW K mg C) (F : L2.Fun K "shows" "Wait.shows" sWaitShows f fd) (C_backs : Ca P w K mg base 1 "backs" spBacks) (C_next_count : Ca P w K mg base 1 "next_count" (spNext K)) : FnOk P w K mg base CX0 2 f fd ["self", "sides", "word"] (spWaitShows C) := by
  refine F.ok scWaitShows (fun vs H Q E h => ?_) (fun cdv A outer s H vs Q E hr h => ?_)
  · obtain ⟨_, ⟨_, _, _, _, _, _, rfl, _⟩, _⟩ := h
    rfl
  · obtain ⟨z, ⟨p, dx, q, T', s, x, rfl, hp, hq, hT, s2, s26, h0, hx, rfl⟩, k⟩ := h
    have hr : Room 1 _ := hr
    have nd := scWaitShows.nd
    refine ⟨_, (pss_cons (ps_if (PW.pt (pw_or (pt_cmpR op_ne (pe_callB call_len_seq (by rfl) T.n_len PySem.boot_len (pa_cons (pe_fld (pv 0) rfl) pa_nil)) (pe_op op_add (pe_callB call_len_str (by rfl) T.n_len PySem.boot_len (pa_cons (pv 2) pa_nil)) pe_int) (nomark _)) (pw_or1 (pt_cmpR op_ne (pe_ix ix_list (pe_fld (pv 0) rfl) (pe_un un_neg pe_int) (fun _ _ => rfl)) pe_int (nomark _))))) 
    (pss_one (ps_ret pe_bl)) pss_nil) 
  (pss_cons (ps_set (i := 3) nd rfl (Or.inr rfl) (pe_ca C_backs hr (pa_cons (pv 2) pa_nil))) 
  (pss_cons (ps_for PassesOwn.never rfl (pi_range1 (by rfl) T.n_range (pa_cons (pe_callB call_len_str (by rfl) T.n_len PySem.boot_len (pa_cons (pv 2) pa_nil)) pa_nil)) (pg_name (i := 4) nd rfl (Or.inr rfl)) 
    (pss_cons (ps_setLc (i := 5) (own := [("letter", 6)]) (g := gName 6) (by rfl) nd rfl rfl (sw_true rfl rfl rfl (by decide +kernel)) (pi_str (pe_slice sl_str (pe_gcn T.g_LETTERS) po_none (po_some (pv 1)))) (blkOk_by (own := [("letter", 6)]) (N := showN) (sc := defScope sWaitShows) (by decide +kernel)) (fun _ _ _ _ _ => pg_name (i := 6) nd rfl (Or.inl rfl)) (fun _ _ _ _ _ => pts_nil) (fun _ _ _ _ _ => (pk_ix K (pe_ix ix_list (pk_fld K (pe_fld (pv 0) rfl)) (pe_ca C_next_count hr (pa_cons (pv 2) (pa_cons (pv 3) (pa_cons (pv 4) (pa_cons (pv 6) pa_nil))))) (fun _ _ => rfl))))) 
    (pss_one (ps_if (pt_cmpR op_ne (pe_op op_mul (pv 1) (pe_ix ix_list (pe_fld (pv 0) rfl) (pv 4) (fun _ _ => rfl))) (pe_op op_add (pv 1) (pe_callB (cr_sum rfl) (by rfl) T.n_sum (by decide +kernel) (pa_cons (pv 5) pa_nil))) (nomark _)) 
      (pss_one (ps_ret pe_bl)) pss_nil)))) 
  (pss_one (ps_ret pe_bl))))), ?_⟩
    have hf : ∀ {σ : L2.St} {H1 : Hp}, Ex H H1 → Ev (tVar 0) σ H1 (.ref p) → Ev (tFld K (tVar 0) "table") σ H1 (.ref q) := fun e h => ev_fld h (e _ _ hp) TW.cl TW.nT (wf_table q)
    have hlen : ∀ {σ : L2.St} {H1 : Hp}, Ex H H1 → Ev (tVar 0) σ H1 (.ref p) → Ev (tCB (rLenS K) (tCons (tFld K (tVar 0) "table") tNil)) σ H1 (.int (T'.length : Int)) := fun e h => by
      have := ev_len (K := K) (hf e h) (sq_of (e _ _ hq))
      rw [List.length_map] at this
      exact this
    refine q_if (b := !decide ((T'.length : Int) = (x.length : Int) + 1) || !decide (at0 T' x.length = 0)) (et_or (et_test (ev_op (hlen (Ex.refl _) (ev_var rfl)) (ev_op (ev_lenS (ev_var rfl) (by omega)) ev_c rv_I0) rv_neI)) (fun hb => ?_)) (fun hb H1 e1 => ?_) (fun hb H1 e1 => ?_)
    · rw [Bool.not_eq_false', decide_eq_true_eq] at hb
      refine et_test (ev_op (ev_op (hf (Ex.refl _) (ev_var rfl)) (ev_un ev_c ru_neg) (rv_iLast (v := at0 T' x.length) (sq_of hq) (by omega) ?_)) ev_c rv_neI)
      rw [show T'.length - 1 = x.length by omega]
      exact at0_get (by omega)
    · refine s_ret (v := .bl (decide (IsTab s x T'))) (ev_is ev_c ?_) fun H2 e2 => k H2 (e1.trans e2)
      rw [decide_eq_false]
      rintro ⟨t1, t2, _⟩
      rw [decide_eq_true (by omega), decide_eq_true t2] at hb
      exact absurd hb (by decide)
    · have hb1 : T'.length = x.length + 1 ∧ at0 T' x.length = 0 := by
        rw [Bool.or_eq_false_iff, Bool.not_eq_false', Bool.not_eq_false', decide_eq_true_eq, decide_eq_true_eq] at hb
        exact ⟨by omega, hb.2⟩
      refine q_asgL (el_pl (ea_cons (ev_var rfl) ea_nil) fun _ _ => ⟨x, rfl, h0, hx, rfl⟩) fun r H2 hr2 e2 h2 => ?_
      refine q_forR1 (n := (x.length : Int)) (ea_cons (ev_lenS (ev_var rfl) (by omega)) ea_nil) ⟨by omega, by omega⟩
        (fun i σ' H' => ∃ a b, σ' = [some (.ref p), some (.int (s : Int)), some (.str (S x)), some (.ref r), a, b, none] ∧ Ex H H' ∧ H' r = some (.lst (iV (nI (backsTo x x.length)))) ∧
          ∀ k, k < i → (s : Int) * at0 T' k = s + sumL (fun c => at0 T' (nx x k c)) (lets s))
        (fun H3 e3 => ⟨none, none, rfl, (e1.trans e2).trans e3, e3 _ _ h2, fun k hk => by omega⟩) ?_ ?_
      · rintro i σ' H3 hi ⟨a, b, rfl, e3, h3, hall⟩
        have hi : i < x.length := by omega
        refine q_asgL (xs := iV ((lets s).map fun c => at0 T' (nx x i c))) ?_ fun l H4 hl e4 h4 => ?_
        · rw [iV, List.map_map]
          refine el_lcT (w := lets s) (fun c => V.int (at0 T' (nx x i c))) (ev_is (v := .str (S ((lets 26).take s))) (ev_to ev_c (eo_is (ev_var rfl) rfl) (by rw [let26_len]; omega)) (by rw [lets_take s26])) (by rw [lets_len]; omega) (fun _ => rfl) fun c _ H5 e5 => ?_
          exact ev_op (hf (e3.trans e5) (ev_var rfl)) (ev_pv (ea_cons (ev_var rfl) (ea_cons (ev_var rfl) (ea_cons (ev_var rfl) (ea_cons (ev_var rfl) ea_nil)))) fun H6 e6 => ⟨x, r, i, c, rfl, sq_of (e6 _ _ (e5 _ _ h3)), by omega, h0, hx, rfl⟩) (rv_iT (sq_of (e5 _ _ (e3 _ _ hq))) (by have := nx_le x i c; omega))
        · have e34 := e3.trans e4
          refine s_when (b := !decide ((s : Int) * at0 T' i = s + sumL (fun c => at0 T' (nx x i c)) (lets s))) (et_test (ev_op (ev_op (ev_var rfl) (ev_op (hf e34 (ev_var rfl)) (ev_var rfl) (rv_iT (sq_of (e34 _ _ hq)) (by omega))) (rv_mulL (by omega))) (ev_op (ev_var rfl) (ev_sum (ev_var rfl) (sq_of h4)) rv_I0) rv_neI)) (fun hb H5 e5 => ?_) (fun hb H5 e5 => ?_)
          · rw [Bool.not_eq_true', decide_eq_false_iff_not] at hb
            refine s_ret (v := .bl (decide (IsTab s x T'))) (ev_is ev_c ?_) fun H6 e6 => k H6 ((e34.trans e5).trans e6)
            rw [decide_eq_false]
            exact fun z => hb (z.2.2 i hi)
          · rw [Bool.not_eq_false', decide_eq_true_eq] at hb
            refine ⟨_, _, rfl, e34.trans e5, e5 _ _ (e4 _ _ h3), fun k hk => ?_⟩
            by_cases e : k = i
            · subst e
              exact hb
            · exact hall k (by omega)
      · rintro σ' H3 ⟨a, b, rfl, e3, h3, hall⟩
        refine s_ret (v := .bl (decide (IsTab s x T'))) (ev_is ev_c ?_) fun H6 e6 => k H6 (e3.trans e6)
        rw [decide_eq_true]
        exact ⟨hb1.1, hb1.2, fun k hk => hall k (by omega)⟩
abbrev waitsN : List Str := ["sides", "word", "told", "one"]
theorem scWaits : FnScope waitsN ["sides", "word"] (defScope sWaits) := ⟨rfl, rfl, rfl, by decide +kernel, rfl, by decide +kernel, by decide +kernel⟩
theorem ok_waits (T : Tx K mg) (TW : TxW K mg C) (F : L2.Fun K "waits" "waits" sWaits f fd) (C_asked_sides : Ca P w K mg base 2 "asked_sides" spAskedSides) (C_asked_word : Ca P w K mg base 2 "asked_word" spAskedWord) (C_worths : Ca P w K mg base 2 "worths" spWorths)
    (N_Wait : Ma P w K mg base 1 "Wait" C (spWaitInit C)) : FnOk P w K mg base CX0 3 f fd ["sides", "word"] (spWaits C) := by
  refine F.ok scWaits (fun vs H Q E h => ?_) (fun cdv A outer s H vs Q E hr h => ?_)
  · obtain ⟨_, _, rfl, _⟩ := h
    rfl
  · obtain ⟨s, x, rfl, s2, s26, h0, hx, ho, k⟩ := h
    have hr : Room 2 _ := hr
    have nd := scWaits.nd
    refine ⟨_, (pss_cons (ps_expr (pe_ca C_asked_sides hr (pa_cons (pv 0) pa_nil))) 
  (pss_cons (ps_expr (pe_ca C_asked_word hr (pa_cons (pv 1) (pa_cons (pv 0) pa_nil)))) 
  (pss_cons (ps_set (i := 2) nd rfl (Or.inr rfl) (pe_ca C_worths hr (pa_cons (pv 0) (pa_cons (pv 1) pa_nil)))) 
  (pss_one (ps_ret (pe_ma N_Wait hr (pa_cons (pe_lc (own := [("one", 3)]) (g := gName 3) (by rfl) nd (pi_list (pv 2)) (blkOk_by (own := [("one", 3)]) (N := waitsN) (sc := defScope sWaits) (by decide +kernel)) (fun _ _ _ _ _ => pg_name (i := 3) nd rfl (Or.inl rfl)) (fun _ _ _ _ _ => pts_nil) (fun _ _ _ _ _ => (pe_op op_sub (pk_ix K (pe_ix ix_list (pv 2) (pe_un un_neg pe_int) (fun _ _ => rfl))) (pv 3)))) pa_nil))))))), ?_⟩
    refine q_drop (v := .non) (ev_pv (ea_cons (ev_var rfl) ea_nil) fun _ _ => ⟨s, rfl, s2, s26, rfl⟩) fun H1 e1 => ?_
    refine q_drop (v := .non) (ev_pv (ea_cons (ev_var rfl) (ea_cons (ev_var rfl) ea_nil)) fun _ _ => ⟨x, s, rfl, s26, hx, ho, h0, rfl⟩) fun H2 e2 => ?_
    refine q_asgL (el_pl (ea_cons (ev_var rfl) (ea_cons (ev_var rfl) ea_nil)) fun _ _ => ⟨s, x, rfl, s26, h0, hx, rfl⟩) fun r H3 hr3 e3 h3 => ?_
    have hL : EvL (tLc (iList K (tVar 2)) (gName 3) tYes (tOp (rI0 fun i j => .int (i - j)) (tOp (rIxL K) (tVar 2) (tUn (rU fun i => .int (-i)) (tC (.int 1)))) (tVar 3)) [3]) [some (.int (s : Int)), some (.str (S x)), some (.ref r), none] H3 (iV (tabl s x)) := by
      rw [← tabl_wths]
      refine el_lcS (a := V.int) (fun n => V.int (wth s x x.length - n)) (ev_var rfl) (sq_of h3) (by rw [wths_len]; omega) (fun _ => rfl) fun n _ H5 e5 => ?_
      refine ev_op (ev_op (ev_var rfl) (ev_un ev_c ru_neg) (rv_iLast (sq_of (e5 _ _ h3)) (by rw [wths_len]; omega) ?_)) (ev_var rfl) rv_I0
      rw [wths_len]
      exact wths_get (by omega)
    refine s_retMk1 hL fun l H4 hl e4 h4 p dx hp hdx hne => ?_
    have npl : l ≠ p := ne_of_none h4 hp
    have ndl : l ≠ dx := ne_of_none h4 hdx
    refine ⟨p, l, dx, tabl s x, rfl, upd_same, fun q hq => ⟨rfl, ?_⟩, by rw [upd_ne npl, upd_ne ndl]; exact h4⟩
    have hq1 : q ≠ p := fun z => by rw [z, upd_same] at hq; cases hq
    have hq2 : H4 q = none := by
      rw [upd_ne hq1] at hq
      by_cases z : q = dx
      · rw [z]; exact hdx
      · rw [upd_ne z] at hq; exact hq
    have e04 := ((e1.trans e2).trans e3).trans e4
    refine k p q dx _ (fresh_back e04 hp) (fresh_back e04 hq2) (Ne.symm hq1) (((((Ex.mut (Ex.mut (Ex.mut e04 (fresh_back e04 hdx)) (fresh_back e04 hp)) (fresh_back e04 hq2)))).mut (fresh_back e04 hp))) upd_same ?_
    rw [upd_ne hq1, upd_same]
/-- waits(..).table -/
theorem el_waitTab {σ : L2.St} {H : Hp} {ta : TA} {E : XK} {s : Nat} {x : Wd} (TW : TxW K mg C) (h : EvA ta σ H [.int (s : Int), .str (S x)]) (s2 : 2 ≤ s) (s26 : s ≤ 26) (h0 : 0 < x.length) (hx : x.length ≤ 1000) (ho : Over s x) :
    EvL (tFld K (tCall (spWaits C) [] E ta) "table") σ H (iV (tabl s x)) := fun H1 e Q k =>
  h H1 e _ fun H2 e2 => ⟨s, x, rfl, s2, s26, h0, hx, ho, fun p q dx H3 hp hq _ e3 h3p h3q => ⟨p, C, dx, _, _, rfl, h3p, TW.cl, TW.nT, wf_table q, k q H3 (fresh_back e2 hq) (e2.trans e3) h3q⟩⟩
end
end Fw

set_option Elab.async false
set_option linter.all false
set_option maxRecDepth 100000
set_option maxHeartbeats 4000000
namespace Fw
open PySem PySem.Spec PyProof.Rows L2 Evl
theorem sumL_take {f : Nat → Int} {L : List Nat} {j c : Nat} (h : L[j]? = some c) : sumL f (L.take (j + 1)) = sumL f (L.take j) + f c := by
  rw [take_more h]
  unfold sumL
  rw [List.map_append, List.sum_append]
  simp
theorem lets_at {s j c : Nat} (h : (lets s)[j]? = some c) : j < s := by
  have := (List.getElem?_eq_some_iff.mp h).1
  rw [lets_len] at this
  exact this
/-! ### the law's own look at a table -/
abbrev sTable : Stmt := top 25
def spTable : Sp := PV fun vs H z => ∃ (q : Addr) (T : List Int) (s : Nat) (w : Wd), vs = [.int (s : Int), .str (S w), .ref q] ∧ H q = some (.lst (iV T)) ∧ T.length ≤ 10000 ∧ 2 ≤ s ∧ s ≤ 26 ∧ 0 < w.length ∧ w.length ≤ 900 ∧ z = .bl (decide (IsTab s w T))
section
variable {P : Program} {w : World} {K : PySem.W.Frag} {mg : Str → Option Value} {base : Heap} {f : Addr} {fd : FuncData}
theorem scTable : FnScope ["_law_sides", "_law_word", "_law_table_here", "_law_many", "_law_total", "_law_letter"] ["_law_sides", "_law_word", "_law_table_here"] (defScope sTable) := ⟨rfl, rfl, rfl, by decide +kernel, rfl, by decide +kernel, by decide +kernel⟩
theorem ok_table (T : Tx K mg) (F : L2.Fun K "_law_table" "_law_table" sTable f fd) (C__law_longest : Ca P w K mg base 1 "_law_longest" spLongest) : FnOk P w K mg base CX0 2 f fd ["_law_sides", "_law_word", "_law_table_here"] spTable := by
  refine F.ok scTable (fun vs H Q E h => ?_) (fun cdv A outer s H vs Q E hr h => ?_)
  · obtain ⟨_, ⟨_, _, _, _, rfl, _⟩, _⟩ := h
    rfl
  · obtain ⟨z, ⟨q, T', s, x, rfl, hq, hT, s2, s26, h0, hx, rfl⟩, k⟩ := h
    have hr : Room 1 _ := hr
    have nd := scTable.nd
    refine ⟨_, (pss_cons (ps_if (PW.pt (pw_or (pt_cmpR op_ne (pe_callB call_len_seq (by rfl) T.n_len PySem.boot_len (pa_cons (pv 2) pa_nil)) (pe_op op_add (pe_callB call_len_str (by rfl) T.n_len PySem.boot_len (pa_cons (pv 1) pa_nil)) pe_int) (nomark _)) (pw_or1 (pt_cmpR op_ne (pe_ix ix_list (pv 2) (pe_un un_neg pe_int) (fun _ _ => rfl)) pe_int (nomark _))))) 
    (pss_one (ps_ret pe_bl)) pss_nil) 
  (pss_cons (ps_for PassesOwn.never rfl (pi_range1 (by rfl) T.n_range (pa_cons (pe_callB call_len_str (by rfl) T.n_len PySem.boot_len (pa_cons (pv 1) pa_nil)) pa_nil)) (pg_name (i := 3) nd rfl (Or.inl rfl)) 
    (pss_cons (ps_set (i := 4) nd rfl (Or.inl rfl) (pv 0)) 
    (pss_cons (ps_for PassesOwn.never rfl (pi_str (pe_slice sl_str pe_str po_none (po_some (pv 0)))) (pg_name (i := 5) nd rfl (Or.inl rfl)) 
      (pss_one (ps_set (i := 4) nd rfl (Or.inl rfl) (pe_op op_add (pv 4) (pe_ix ix_list (pv 2) (pe_ca C__law_longest hr (pa_cons (pv 1) (pa_cons (pe_op op_add_str (pe_slice sl_str (pv 1) po_none (po_some (pv 3))) (pv 5)) pa_nil))) (fun _ _ => rfl)))))) 
    (pss_one (ps_if (pt_cmpR op_ne (pe_op op_mul (pv 0) (pe_ix ix_list (pv 2) (pv 3) (fun _ _ => rfl))) (pv 4) (nomark _)) 
      (pss_one (ps_ret pe_bl)) pss_nil))))) 
  (pss_one (ps_ret pe_bl)))), ?_⟩
    have hlen : ∀ {σ : L2.St} {H1 : Hp}, Ex H H1 → Ev (tVar 2) σ H1 (.ref q) → Ev (tCB (rLenS K) (tCons (tVar 2) tNil)) σ H1 (.int (T'.length : Int)) := fun e h => by
      have := ev_len (K := K) h (sq_of (e _ _ hq))
      rw [List.length_map] at this
      exact this
    refine q_if (b := !decide ((T'.length : Int) = (x.length : Int) + 1) || !decide (at0 T' x.length = 0)) (et_or (et_test (ev_op (hlen (Ex.refl _) (ev_var rfl)) (ev_op (ev_lenS (ev_var rfl) (by omega)) ev_c rv_I0) rv_neI)) (fun hb => ?_)) (fun hb H1 e1 => ?_) (fun hb H1 e1 => ?_)
    · rw [Bool.not_eq_false', decide_eq_true_eq] at hb
      refine et_test (ev_op (ev_op (ev_var rfl) (ev_un ev_c ru_neg) (rv_iLast (v := at0 T' x.length) (sq_of hq) (by omega) ?_)) ev_c rv_neI)
      rw [show T'.length - 1 = x.length by omega]
      exact at0_get (by omega)
    · refine s_ret (v := .bl (decide (IsTab s x T'))) (ev_is ev_c ?_) fun H2 e2 => k H2 (e1.trans e2)
      rw [decide_eq_false]
      rintro ⟨t1, t2, _⟩
      rw [decide_eq_true (by omega), decide_eq_true t2] at hb
      exact absurd hb (by decide)
    · have hb1 : T'.length = x.length + 1 ∧ at0 T' x.length = 0 := by
        rw [Bool.or_eq_false_iff, Bool.not_eq_false', Bool.not_eq_false', decide_eq_true_eq, decide_eq_true_eq] at hb
        exact ⟨by omega, hb.2⟩
      refine q_forR1 (n := (x.length : Int)) (ea_cons (ev_lenS (ev_var rfl) (by omega)) ea_nil) ⟨by omega, by omega⟩
        (fun i σ' H' => ∃ a b c, σ' = [some (.int (s : Int)), some (.str (S x)), some (.ref q), a, b, c] ∧ Ex H H' ∧
          ∀ k, k < i → (s : Int) * at0 T' k = s + sumL (fun c => at0 T' (nx x k c)) (lets s))
        (fun H3 e3 => ⟨none, none, none, rfl, e1.trans e3, fun k hk => by omega⟩) ?_ ?_
      · rintro i σ' H3 hi ⟨a, b, c, rfl, e3, hall⟩
        have hi : i < x.length := by omega
        refine q_asg (ev_var rfl) fun H4 e4 => ?_
        refine q_forS (w := lets s) (ev_is (v := .str (S ((lets 26).take s))) (ev_to (ev_is ev_c (by rw [S_abc])) (eo_is (ev_var rfl) rfl) (by rw [let26_len]; omega)) (by rw [lets_take s26]))
          (fun j σ' H' => ∃ c, σ' = [some (.int (s : Int)), some (.str (S x)), some (.ref q), some (.int (i : Int)), some (.int (s + sumL (fun c => at0 T' (nx x i c)) ((lets s).take j))), c] ∧ Ex H H')
          (fun H5 e5 => ⟨c, by rw [List.take_zero, sumL_nil, Int.add_zero]; rfl, (e3.trans e4).trans e5⟩) ?_ ?_
        · rintro j c σ' H5 hc ⟨c', rfl, e5⟩
          have lx : (x.take i).length ≤ 900 := by rw [List.length_take]; omega
          refine s_asg (v := .int (s + sumL (fun c => at0 T' (nx x i c)) ((lets s).take (j + 1)))) (ev_is (ev_op (ev_var rfl) (ev_op (ev_var rfl) (ev_pv (ea_cons (ev_var rfl) (ea_cons (ev_op (ev_to (ev_var rfl) (eo_is (ev_var rfl) rfl) (by omega)) (ev_var rfl) (rv_addS (by rw [List.length_singleton]; omega))) ea_nil)) fun _ _ => ⟨x, x.take i ++ [c], rfl, by omega, by rw [List.length_append, List.length_singleton]; omega, rfl⟩) (rv_iT (sq_of (e5 _ _ hq)) (by have := lng_le x (x.take i ++ [c]); omega))) rv_I0) (by rw [sumL_take hc, ← Int.add_assoc]; rfl)) fun H6 e6 => ⟨_, rfl, e5.trans e6⟩
        · rintro σ' H5 ⟨c', rfl, e5⟩
          rw [List.take_length]
          refine s_when (b := !decide ((s : Int) * at0 T' i = s + sumL (fun c => at0 T' (nx x i c)) (lets s))) (et_test (ev_op (ev_op (ev_var rfl) (ev_op (ev_var rfl) (ev_var rfl) (rv_iT (sq_of (e5 _ _ hq)) (by omega))) (rv_mulL (by omega))) (ev_var rfl) rv_neI)) (fun hb H6 e6 => ?_) (fun hb H6 e6 => ?_)
          · rw [Bool.not_eq_true', decide_eq_false_iff_not] at hb
            refine s_ret (v := .bl (decide (IsTab s x T'))) (ev_is ev_c ?_) fun H7 e7 => k H7 ((e5.trans e6).trans e7)
            rw [decide_eq_false]
            exact fun z => hb (z.2.2 i hi)
          · rw [Bool.not_eq_false', decide_eq_true_eq] at hb
            refine ⟨_, _, _, rfl, e5.trans e6, fun k hk => ?_⟩
            by_cases e : k = i
            · subst e
              exact hb
            · exact hall k (by omega)
      · rintro σ' H3 ⟨a, b, c, rfl, e3, hall⟩
        refine s_ret (v := .bl (decide (IsTab s x T'))) (ev_is ev_c ?_) fun H6 e6 => k H6 (e3.trans e6)
        rw [decide_eq_true]
        exact ⟨hb1.1, hb1.2, fun k hk => hall k (by omega)⟩
/-- x = f(..), by the promise itself -/
theorem q_asgC {σ : L2.St} {H : Hp} {ta : TA} {sp : Sp} {vs : List V} {E : XK} {i : Nat} {tz : TS} {D : Ends} (h : EvA ta σ H vs) (k : ∀ H1, Ex H H1 → sp (vs ++ []) H1 (fun v H2 => tz D (σ.set i (some v)) H2) E) : tSeq (tAsg (tCall sp [] E ta) (gName i)) tz D σ H :=
  h H (Ex.refl H) _ k
end
end Fw

set_option Elab.async false
set_option linter.all false
set_option maxRecDepth 100000
set_option maxHeartbeats 4000000
namespace Fw
open PySem PySem.Spec PyProof.Rows L2 Evl
abbrev sLaw : Stmt := top 26
abbrev lawLN : List Str := ["_law_script", "_law_sides", "_law_word", "_law_other", "_law_again", "_law_found", "_law_some"]
def spLaw (K : PySem.W.Frag) : Sp := fun vs H Q _ => ∃ (a : Addr) (ns : List Int), vs = [.ref a] ∧ SqL K H a (ns.map V.int) ∧ ns.length ≤ 63 ∧ ∀ H', Q (.bl true) H'
theorem Sz : Str.ofString "z" = S [122] := by decide +kernel
theorem Saa : Str.ofString "aa" = S [97, 97] := by decide +kernel
theorem tab_z : tabl 26 [122] = [26, 0] := by decide +kernel
theorem tab_aa : tabl 2 [97, 97] = [6, 4, 0] := by decide +kernel
/-- the classes as the law asks of them -/
structure TxL (K : PySem.W.Frag) (mg : Str → Option Value) (C CA CR : Addr) : Prop where
  I : InsF K C
  g_Answer : mg "Answer" = some (.ref CA)
  g_Wait : mg "Wait" = some (.ref C)
  g_Race : mg "Race" = some (.ref CR)
  kA : PySem.W.kitOne K (.ref C) (.ref CA) = some true
  kW : PySem.W.kitOne K (.ref C) (.ref C) = some true
  kR : PySem.W.kitOne K (.ref C) (.ref CR) = some false
section
variable {P : Program} {w : World} {K : PySem.W.Frag} {mg : Str → Option Value} {base : Heap} {f C CA CR : Addr} {fd : FuncData}
theorem scLaw : FnScope lawLN ["_law_script"] (defScope sLaw) := ⟨rfl, rfl, rfl, by decide +kernel, rfl, by decide +kernel, by decide +kernel⟩
theorem iV_set (T : List Int) (j : Nat) (v : Int) : (iV T).set j (.int v) = iV (T.set j v) := by
  rw [iV, ← List.map_set]
theorem ok_law (T : Tx K mg) (TW : TxW K mg C) (TC : TxL K mg C CA CR) (F : L2.Fun K "law" "law" sLaw f fd) (C__law_words : Ca P w K mg base 1 "_law_words" (spLawWords K)) (C__law_numbers : Ca P w K mg base 1 "_law_numbers" spNumbers) (C__law_table : Ca P w K mg base 2 "_law_table" spTable)
    (C_waits : Ca P w K mg base 3 "waits" (spWaits C)) (M_Wait_shows : Me P w K mg base 2 C "shows" (spWaitShows C)) : FnOk P w K mg base CX0 4 f fd ["_law_script"] (spLaw K) := by
  refine F.ok scLaw (fun vs H Q E h => ?_) (fun cdv A outer s H vs Q E hr h => ?_)
  · obtain ⟨_, _, rfl, _⟩ := h
    rfl
  · obtain ⟨a, ns, rfl, hS, hn, k⟩ := h
    have hr : Room 3 _ := hr
    have nd := scLaw.nd
    refine ⟨_, (pss_cons (ps_asg (pe_ca C__law_words hr (pa_cons (pv 0) pa_nil)) (pg_tup rfl (pgs_cons (pg_name (i := 1) nd rfl (Or.inl rfl)) (pgs_cons (pg_name (i := 2) nd rfl (Or.inl rfl)) (pgs_cons (pg_name (i := 3) nd rfl (Or.inl rfl)) pgs_nil))))) 
  (pss_cons (ps_for PassesOwn.never rfl (pi_range1 (by rfl) T.n_range (pa_cons pe_int pa_nil)) (pg_name (i := 4) nd rfl (Or.inl rfl)) 
    (pss_cons (ps_set (i := 5) nd rfl (Or.inl rfl) (pe_ca C_waits hr (pa_cons (pv 1) (pa_cons (pv 2) pa_nil)))) 
    (pss_cons (ps_if (PW.pt (pw_or (pt_not (pt_val (pe_callB (r := rIsi K) (id := "isinstance") call_isi (by rfl) T.n_isinstance (by decide +kernel) (pa_cons (pv 5) (pa_cons (pe_cls TC.g_Answer) pa_nil))))) (pw_or (pt_not (pt_val (pe_callB (r := rIsi K) (id := "isinstance") call_isi (by rfl) T.n_isinstance (by decide +kernel) (pa_cons (pv 5) (pa_cons (pe_cls TC.g_Wait) pa_nil))))) (pw_or1 (pt_val (pe_callB (r := rIsi K) (id := "isinstance") call_isi (by rfl) T.n_isinstance (by decide +kernel) (pa_cons (pv 5) (pa_cons (pe_cls TC.g_Race) pa_nil)))))))) 
      (pss_one (ps_ret pe_bl)) pss_nil) 
    (pss_cons (ps_if (PW.pt (pw_or (pt_not (pt_val (pe_ca C__law_numbers hr (pa_cons (pe_fld (pv 5) rfl) pa_nil)))) (pw_or1 (pt_not (pt_val (pe_ca C__law_table hr (pa_cons (pv 1) (pa_cons (pv 2) (pa_cons (pe_fld (pv 5) rfl) pa_nil))))))))) 
      (pss_one (ps_ret pe_bl)) pss_nil) 
    (pss_cons (ps_if (pt_cmpR op_notBl (pe_me M_Wait_shows hr (pv 5) (pa_cons (pv 1) (pa_cons (pv 2) pa_nil))) pe_bl (nomark _)) 
      (pss_one (ps_ret pe_bl)) pss_nil) 
    (pss_cons (ps_for PassesOwn.never rfl (pi_list (pe_lst (pa_cons (pv 3) (pa_cons (pe_revS (pv 2)) pa_nil)))) (pg_name (i := 6) nd rfl (Or.inl rfl)) 
      (pss_one (ps_if (pt_cmpR op_ne (pe_me M_Wait_shows hr (pv 5) (pa_cons (pv 1) (pa_cons (pv 6) pa_nil))) (pe_ca C__law_table hr (pa_cons (pv 1) (pa_cons (pv 6) (pa_cons (pe_fld (pv 5) rfl) pa_nil)))) (nomark _)) 
        (pss_one (ps_ret pe_bl)) pss_nil))) 
    (pss_cons (ps_asg (pe_op op_add (pe_ix ix_list (pe_fld (pv 5) rfl) pe_int (fun _ _ => rfl)) pe_int) (pg_sub (pe_fld (pv 5) rfl) pe_int set_list)) 
    (pss_one (ps_if (pt_cmpR op_notBl (pe_me M_Wait_shows hr (pv 5) (pa_cons (pv 1) (pa_cons (pv 2) pa_nil))) pe_bl (nomark _)) 
      (pss_one (ps_ret pe_bl)) pss_nil))))))))) 
  (pss_one (ps_ret (pe_and (pe_cmpR (op_eqD hr.units) (pe_fld (pe_ca C_waits hr (pa_cons pe_int (pa_cons pe_str pa_nil))) rfl) (pe_lst (pa_cons pe_int (pa_cons pe_int pa_nil))) (nomark _)) (pe_one (pe_cmpR (op_eqD hr.units) (pe_fld (pe_ca C_waits hr (pa_cons pe_int (pa_cons pe_str pa_nil))) rfl) (pe_lst (pa_cons pe_int (pa_cons pe_int (pa_cons pe_int pa_nil)))) (nomark _)))))))), ?_⟩
    refine ⟨_, rfl, a, ns, rfl, hS, hn, fun s x y D q H1 hq e1 h1 => ⟨q, _, rfl, st_of h1, rfl, _, _, rfl, _, _, rfl, _, _, rfl, rfl, ?_⟩⟩
    have s2 := D.s2
    have s26 := D.s26
    have dl := D.len
    have a0 := D.a0
    have b0 := D.b0
    refine q_forR1 (n := 2) (ea_cons ev_c ea_nil) ⟨by decide, by decide⟩ (fun i σ' H' => ∃ u v z, σ' = [some (.ref a), some (.int (s : Int)), some (.str (S x)), some (.str (S y)), u, v, z] ∧ Ex H H')
      (fun H2 e2 => ⟨_, _, _, rfl, e1.trans e2⟩) ?_ ?_
    · rintro i σ' H2 hi ⟨u, v, z, rfl, e2⟩
      refine q_asgC (ea_cons (ev_var rfl) (ea_cons (ev_var rfl) ea_nil)) fun H3 e3 => ⟨s, x, rfl, s2, s26, a0, by omega, D.oa, fun p q dx H4 hp hq hne e4 h4p h4q => ?_⟩
      have e04 := (e2.trans e3).trans e4
      have hq0 : H q = none := fresh_back (e2.trans e3) hq
      have hp0 : H p = none := fresh_back (e2.trans e3) hp
      have tl := tabl_len (s : Int) x
      have ti := tabl_is (s := s) (w := x) D.oa
      -- of which classes it is
      refine q_not (K := K) (et_is (et_or (a := false) (b := false) (et_is (et_not (et_B (ev_isiC (ev_var rfl) h4p TC.I TC.kA))) rfl) fun _ => et_is (et_or (a := false) (b := false) (et_is (et_not (et_B (ev_isiC (ev_var rfl) h4p TC.I TC.kW))) rfl) fun _ => et_B (ev_isiC (ev_var rfl) h4p TC.I TC.kR)) rfl) rfl) fun H5 e5 => ?_
      have h5p := e5 _ _ h4p
      have h5q := e5 _ _ h4q
      have hf : ∀ {σ : L2.St} {H1 : Hp}, Ex H5 H1 → Ev (tVar 5) σ H1 (.ref p) → Ev (tFld K (tVar 5) "table") σ H1 (.ref q) := fun e h => ev_fld h (e _ _ h5p) TW.cl TW.nT (wf_table q)
      -- its table
      refine q_not (K := K) (et_is (et_or (a := false) (b := false) (et_is (et_not (et_B (ev_pv (z := .bl true) (ea_cons (hf (Ex.refl _) (ev_var rfl)) ea_nil) fun H6 e6 => ⟨q, tabl s x, rfl, e6 _ _ h5q, by omega, rfl⟩))) rfl) fun _ => et_is (et_not (et_B (ev_pv (z := .bl true) (ea_cons (ev_var rfl) (ea_cons (ev_var rfl) (ea_cons (hf (Ex.refl _) (ev_var rfl)) ea_nil))) fun H6 e6 => ⟨q, tabl s x, s, x, rfl, e6 _ _ h5q, by omega, s2, s26, a0, by omega, by rw [decide_eq_true ti]⟩))) rfl) rfl) fun H6 e6 => ?_
      have h6p := e6 _ _ h5p
      have h6q := e6 _ _ h5q
      refine q_not (K := K) (et_is (et_test (ev_op (ev_me (R := _) (z := .bl true) (ev_var rfl) h6p (wf_no q (by decide +kernel)) (ea_cons (ev_var rfl) (ea_cons (ev_var rfl) ea_nil)) fun H7 e7 => ⟨p, dx, q, tabl s x, s, x, rfl, e7 _ _ h6p, e7 _ _ h6q, by omega, s2, s26, a0, by omega, by rw [decide_eq_true ti]⟩) ev_c rv_notB)) rfl) fun H7 e7 => ?_
      have h7p := e7 _ _ h6p
      have h7q := e7 _ _ h6q
      have e07 := ((e04.trans e5).trans e6).trans e7
      -- other words
      refine q_forNLn (K := K) (xs := [.str (S y), .str (S x.reverse)]) (el_lst (ea_cons (ev_var rfl) (ea_cons (ev_revS (ev_var rfl) (by omega)) ea_nil)) (by show 2 ≤ 100000; decide))
        (fun r j σ' H' => ∃ z, σ' = [some (.ref a), some (.int (s : Int)), some (.str (S x)), some (.str (S y)), some (.int (i : Int)), some (.ref p), z] ∧ Ex H H' ∧ H' p = some (.ins C dx (wf q)) ∧ H' q = some (.lst (iV (tabl s x))) ∧ H' r = some (.lst [.str (S y), .str (S x.reverse)]))
        (fun r H8 hr e8 h8 => ⟨_, rfl, e07.trans e8, e8 _ _ h7p, e8 _ _ h7q, h8⟩) (fun r j σ' H' _ ⟨_, _, _, _, _, h⟩ => sq_of h) ?_ ?_
      · rintro r j v' σ' H8 hj ⟨z, rfl, e8, h8p, h8q, h8r⟩
        obtain ⟨y', rfl, y0, yl⟩ : ∃ y', v' = .str (S y') ∧ 0 < y'.length ∧ y'.length ≤ 70 := by
          match j, hj with
          | 0, hj => exact ⟨y, (Option.some.inj hj).symm, b0, by omega⟩
          | 1, hj => exact ⟨x.reverse, (Option.some.inj hj).symm, by rw [List.length_reverse]; omega, by rw [List.length_reverse]; omega⟩
          | j + 2, hj => simp at hj
        refine s_not (K := K) (et_is (et_test (ev_op (ev_me (R := _) (ev_var rfl) h8p (wf_no q (by decide +kernel)) (ea_cons (ev_var rfl) (ea_cons (ev_var rfl) ea_nil)) fun H9 e9 => ⟨p, dx, q, tabl s x, s, y', rfl, e9 _ _ h8p, e9 _ _ h8q, by omega, s2, s26, y0, by omega, rfl⟩)
          (ev_pv (ea_cons (ev_var rfl) (ea_cons (ev_var rfl) (ea_cons (ev_fld (ev_var rfl) h8p TW.cl TW.nT (wf_table q)) ea_nil))) fun H9 e9 => ⟨q, tabl s x, s, y', rfl, e9 _ _ h8q, by omega, s2, s26, y0, by omega, rfl⟩) rv_neB)) (by simp)) fun H9 e9 => ⟨_, rfl, e8.trans e9, e9 _ _ h8p, e9 _ _ h8q, e9 _ _ h8r⟩
      · rintro r σ' H8 ⟨z, rfl, e8, h8p, h8q, h8r⟩
        -- one more at its first place
        refine q_setL (j := 0) (v := .int (at0 (tabl s x) 0 + 1)) h8q (ev_op (ev_op (ev_fld (ev_var rfl) h8p TW.cl TW.nT (wf_table q)) (ev_is ev_c rfl) (rv_iT (k := 0) (sq_of h8q) (by omega))) ev_c rv_I0) (ev_fld (ev_var rfl) h8p TW.cl TW.nT (wf_table q)) (ev_is ev_c rfl) (by rw [List.length_map]; omega) fun H9 e9 => ?_
        rw [iV_set]
        have npq : p ≠ q := ne_of h8p h8q (by intro z; cases z)
        have h9p : (upd H9 q (.lst (iV ((tabl s x).set 0 (at0 (tabl s x) 0 + 1))))) p = some (.ins C dx (wf q)) := by
          rw [upd_ne npq]
          exact e9 _ _ h8p
        refine s_not (K := K) (et_is (et_test (ev_op (ev_me (R := _) (z := .bl false) (ev_var rfl) h9p (wf_no q (by decide +kernel)) (ea_cons (ev_var rfl) (ea_cons (ev_var rfl) ea_nil)) fun H10 e10 => ⟨p, dx, q, (tabl s x).set 0 (at0 (tabl s x) 0 + 1), s, x, rfl, e10 _ _ h9p, e10 _ _ upd_same, by rw [List.length_set]; omega, s2, s26, a0, by omega, by rw [decide_eq_false (tabl_not D.oa a0 ti)]⟩) ev_c rv_notB)) rfl) fun H10 e10 => ?_
        exact ⟨_, _, _, rfl, (Ex.mut (e8.trans e9) hq0).trans e10⟩
    · rintro σ' H2 ⟨u, v, z, rfl, e2⟩
      refine s_ret (v := .bl (true && true)) (ev_andV (ev_eqLL (ns := [26, 0]) (by
        rw [← tab_z]
        exact el_waitTab (s := 26) (x := [122]) TW (ea_cons ev_c (ea_cons (ev_is ev_c (by rw [Sz])) ea_nil)) (by decide) (by decide) (by decide) (by decide) (by intro c hc; simp at hc; omega)) (el_lst (ea_cons ev_c (ea_cons ev_c ea_nil)) (by show 2 ≤ 100000; decide))) fun _ => ev_eqLL (ns := [6, 4, 0]) (by
        rw [← tab_aa]
        exact el_waitTab (s := 2) (x := [97, 97]) TW (ea_cons ev_c (ea_cons (ev_is ev_c (by rw [Saa])) ea_nil)) (by decide) (by decide) (by decide) (by decide) (by intro c hc; simp at hc; omega)) (el_lst (ea_cons ev_c (ea_cons ev_c (ea_cons ev_c ea_nil))) (by show 3 ≤ 100000; decide))) fun H3 e3 => k H3
end
end Fw

set_option Elab.async false
set_option linter.all false
set_option maxRecDepth 100000
set_option maxHeartbeats 4000000
namespace Fw
open PySem PySem.Spec PyProof.Rows L2 Evl
/-! ### what the top has written, the head -/
theorem all_mk {l : PySem.W.OpenLaw} {w : World} {K : PySem.W.Frag} {h : Heap} {mg : Str → Option Value} {fa : Addr} (X : K.In h) (G : h.Ns mainGlobals mg) (hfa : mg "law" = some (.ref fa))
    {f0 f1 f2 f3 f4 f5 f6 f7 f8 f9 f10 f11 f12 f13 f14 CWait CAnswer CRace : Addr}
    {od0 an0 : Option Addr} {sl0 : Array (Option Value)} {oc0 kV0 dc0 pm0 cd0 ct0 : Value}
    {od1 an1 : Option Addr} {sl1 : Array (Option Value)} {oc1 kV1 dc1 pm1 cd1 ct1 : Value}
    {od2 an2 : Option Addr} {sl2 : Array (Option Value)} {oc2 kV2 dc2 pm2 cd2 ct2 : Value}
    {od3 an3 : Option Addr} {sl3 : Array (Option Value)} {oc3 kV3 dc3 pm3 cd3 ct3 : Value}
    {od4 an4 : Option Addr} {sl4 : Array (Option Value)} {oc4 kV4 dc4 pm4 cd4 ct4 : Value}
    {od5 an5 : Option Addr} {sl5 : Array (Option Value)} {oc5 kV5 dc5 pm5 cd5 ct5 : Value}
    {od6 an6 : Option Addr} {sl6 : Array (Option Value)} {oc6 kV6 dc6 pm6 cd6 ct6 : Value}
    {od7 an7 : Option Addr} {sl7 : Array (Option Value)} {oc7 kV7 dc7 pm7 cd7 ct7 : Value}
    {od8 an8 : Option Addr} {sl8 : Array (Option Value)} {oc8 kV8 dc8 pm8 cd8 ct8 : Value}
    {od9 an9 : Option Addr} {sl9 : Array (Option Value)} {oc9 kV9 dc9 pm9 cd9 ct9 : Value}
    {od10 an10 : Option Addr} {sl10 : Array (Option Value)} {oc10 kV10 dc10 pm10 cd10 ct10 : Value}
    {od11 an11 : Option Addr} {sl11 : Array (Option Value)} {oc11 kV11 dc11 pm11 cd11 ct11 : Value}
    {od12 an12 : Option Addr} {sl12 : Array (Option Value)} {oc12 kV12 dc12 pm12 cd12 ct12 : Value}
    {od13 an13 : Option Addr} {sl13 : Array (Option Value)} {oc13 kV13 dc13 pm13 cd13 ct13 : Value}
    {od14 an14 : Option Addr} {sl14 : Array (Option Value)} {oc14 kV14 dc14 pm14 cd14 ct14 : Value}
    {zL : Str} {tL : Tok} (aL : PySem.W.nsIn K mainGlobals "LETTERS" = some (some (.str zL tL))) (eL : zL = S (lets 26))
    (a0 : PySem.W.nsIn K mainGlobals "is_throws" = some (some (.ref f0)))
    (l0 : K.lookup f0 = some ⟨oc0, od0, .func (PySem.W.fnOf "is_throws" "is_throws" (defArgs sIsThrows) (defBody sIsThrows) (defScope sIsThrows) .none kV0 dc0 pm0 an0 cd0 ct0), sl0⟩) (c0 : PySem.W.codeIn K cd0 "is_throws" = true) (k0 : PySem.W.keepIn K (.ref f0) = true)
    (a1 : PySem.W.nsIn K mainGlobals "asked_word" = some (some (.ref f1)))
    (l1 : K.lookup f1 = some ⟨oc1, od1, .func (PySem.W.fnOf "asked_word" "asked_word" (defArgs sAskedWord) (defBody sAskedWord) (defScope sAskedWord) .none kV1 dc1 pm1 an1 cd1 ct1), sl1⟩) (c1 : PySem.W.codeIn K cd1 "asked_word" = true) (k1 : PySem.W.keepIn K (.ref f1) = true)
    (a2 : PySem.W.nsIn K mainGlobals "backs" = some (some (.ref f2)))
    (l2 : K.lookup f2 = some ⟨oc2, od2, .func (PySem.W.fnOf "backs" "backs" (defArgs sBacks) (defBody sBacks) (defScope sBacks) .none kV2 dc2 pm2 an2 cd2 ct2), sl2⟩) (c2 : PySem.W.codeIn K cd2 "backs" = true) (k2 : PySem.W.keepIn K (.ref f2) = true)
    (a3 : PySem.W.nsIn K mainGlobals "next_count" = some (some (.ref f3)))
    (l3 : K.lookup f3 = some ⟨oc3, od3, .func (PySem.W.fnOf "next_count" "next_count" (defArgs sNext) (defBody sNext) (defScope sNext) .none kV3 dc3 pm3 an3 cd3 ct3), sl3⟩) (c3 : PySem.W.codeIn K cd3 "next_count" = true) (k3 : PySem.W.keepIn K (.ref f3) = true)
    (a4 : PySem.W.nsIn K mainGlobals "is_number" = some (some (.ref f4)))
    (l4 : K.lookup f4 = some ⟨oc4, od4, .func (PySem.W.fnOf "is_number" "is_number" (defArgs sIsNumber) (defBody sIsNumber) (defScope sIsNumber) .none kV4 dc4 pm4 an4 cd4 ct4), sl4⟩) (c4 : PySem.W.codeIn K cd4 "is_number" = true) (k4 : PySem.W.keepIn K (.ref f4) = true)
    (a5 : PySem.W.nsIn K mainGlobals "asked_sides" = some (some (.ref f5)))
    (l5 : K.lookup f5 = some ⟨oc5, od5, .func (PySem.W.fnOf "asked_sides" "asked_sides" (defArgs sAskedSides) (defBody sAskedSides) (defScope sAskedSides) .none kV5 dc5 pm5 an5 cd5 ct5), sl5⟩) (c5 : PySem.W.codeIn K cd5 "asked_sides" = true) (k5 : PySem.W.keepIn K (.ref f5) = true)
    (a6 : PySem.W.nsIn K mainGlobals "worths" = some (some (.ref f6)))
    (l6 : K.lookup f6 = some ⟨oc6, od6, .func (PySem.W.fnOf "worths" "worths" (defArgs sWorths) (defBody sWorths) (defScope sWorths) .none kV6 dc6 pm6 an6 cd6 ct6), sl6⟩) (c6 : PySem.W.codeIn K cd6 "worths" = true) (k6 : PySem.W.keepIn K (.ref f6) = true)
    (a7 : PySem.W.findIn K (.ref CWait) "__init__" = some (some (.ref f7))) (i7 : PySem.W.isFn K (.ref f7) = true)
    (l7 : K.lookup f7 = some ⟨oc7, od7, .func (PySem.W.fnOf "__init__" "Wait.__init__" (defArgs sWaitInit) (defBody sWaitInit) (defScope sWaitInit) .none kV7 dc7 pm7 an7 cd7 ct7), sl7⟩) (c7 : PySem.W.codeIn K cd7 "Wait.__init__" = true) (k7 : PySem.W.keepIn K (.ref f7) = true)
    (a8 : PySem.W.findIn K (.ref CWait) "shows" = some (some (.ref f8))) (i8 : PySem.W.isFn K (.ref f8) = true)
    (l8 : K.lookup f8 = some ⟨oc8, od8, .func (PySem.W.fnOf "shows" "Wait.shows" (defArgs sWaitShows) (defBody sWaitShows) (defScope sWaitShows) .none kV8 dc8 pm8 an8 cd8 ct8), sl8⟩) (c8 : PySem.W.codeIn K cd8 "Wait.shows" = true) (k8 : PySem.W.keepIn K (.ref f8) = true)
    (a9 : PySem.W.nsIn K mainGlobals "waits" = some (some (.ref f9)))
    (l9 : K.lookup f9 = some ⟨oc9, od9, .func (PySem.W.fnOf "waits" "waits" (defArgs sWaits) (defBody sWaits) (defScope sWaits) .none kV9 dc9 pm9 an9 cd9 ct9), sl9⟩) (c9 : PySem.W.codeIn K cd9 "waits" = true) (k9 : PySem.W.keepIn K (.ref f9) = true)
    (a10 : PySem.W.nsIn K mainGlobals "_law_words" = some (some (.ref f10)))
    (l10 : K.lookup f10 = some ⟨oc10, od10, .func (PySem.W.fnOf "_law_words" "_law_words" (defArgs sLawWords) (defBody sLawWords) (defScope sLawWords) .none kV10 dc10 pm10 an10 cd10 ct10), sl10⟩) (c10 : PySem.W.codeIn K cd10 "_law_words" = true) (k10 : PySem.W.keepIn K (.ref f10) = true)
    (a11 : PySem.W.nsIn K mainGlobals "_law_longest" = some (some (.ref f11)))
    (l11 : K.lookup f11 = some ⟨oc11, od11, .func (PySem.W.fnOf "_law_longest" "_law_longest" (defArgs sLongest) (defBody sLongest) (defScope sLongest) .none kV11 dc11 pm11 an11 cd11 ct11), sl11⟩) (c11 : PySem.W.codeIn K cd11 "_law_longest" = true) (k11 : PySem.W.keepIn K (.ref f11) = true)
    (a12 : PySem.W.nsIn K mainGlobals "_law_numbers" = some (some (.ref f12)))
    (l12 : K.lookup f12 = some ⟨oc12, od12, .func (PySem.W.fnOf "_law_numbers" "_law_numbers" (defArgs sNumbers) (defBody sNumbers) (defScope sNumbers) .none kV12 dc12 pm12 an12 cd12 ct12), sl12⟩) (c12 : PySem.W.codeIn K cd12 "_law_numbers" = true) (k12 : PySem.W.keepIn K (.ref f12) = true)
    (a13 : PySem.W.nsIn K mainGlobals "_law_table" = some (some (.ref f13)))
    (l13 : K.lookup f13 = some ⟨oc13, od13, .func (PySem.W.fnOf "_law_table" "_law_table" (defArgs sTable) (defBody sTable) (defScope sTable) .none kV13 dc13 pm13 an13 cd13 ct13), sl13⟩) (c13 : PySem.W.codeIn K cd13 "_law_table" = true) (k13 : PySem.W.keepIn K (.ref f13) = true)
    (a14 : PySem.W.nsIn K mainGlobals "law" = some (some (.ref f14)))
    (l14 : K.lookup f14 = some ⟨oc14, od14, .func (PySem.W.fnOf "law" "law" (defArgs sLaw) (defBody sLaw) (defScope sLaw) .none kV14 dc14 pm14 an14 cd14 ct14), sl14⟩) (c14 : PySem.W.codeIn K cd14 "law" = true) (k14 : PySem.W.keepIn K (.ref f14) = true)
    (n_len : PySem.W.nsIn K mainGlobals "len" = some none)
    (n_range : PySem.W.nsIn K mainGlobals "range" = some none)
    (n_isinstance : PySem.W.nsIn K mainGlobals "isinstance" = some none)
    (n_str : PySem.W.nsIn K mainGlobals "str" = some none)
    (n_int : PySem.W.nsIn K mainGlobals "int" = some none)
    (n_bool : PySem.W.nsIn K mainGlobals "bool" = some none)
    (n_list : PySem.W.nsIn K mainGlobals "list" = some none)
    (n_sum : PySem.W.nsIn K mainGlobals "sum" = some none)
    (n_min : PySem.W.nsIn K mainGlobals "min" = some none)
    (n_max : PySem.W.nsIn K mainGlobals "max" = some none)
    (n_all : PySem.W.nsIn K mainGlobals "all" = some none)
    (n_any : PySem.W.nsIn K mainGlobals "any" = some none)
    (n_sorted : PySem.W.nsIn K mainGlobals "sorted" = some none)
    (n_enumerate : PySem.W.nsIn K mainGlobals "enumerate" = some none)
    (n_zip : PySem.W.nsIn K mainGlobals "zip" = some none)
    (n_set : PySem.W.nsIn K mainGlobals "set" = some none)
    (g_Wait : PySem.W.nsIn K mainGlobals "Wait" = some (some (.ref CWait)))
    (pg_Wait : PySem.W.plainGet K CWait Str.empty = true)
    (hd_Wait : PySem.W.hasDictIn K CWait = true)
    (po_Wait : PySem.W.plainOver K CWait = true)
    (sa_Wait : PySem.W.findIn K (.ref CWait) "__setattr__" = some (some (.builtin "object.__setattr__")))
    (mk_Wait : PySem.W.makesIn K CWait = true)
    (kc_Wait : PySem.W.keepIn K (.ref CWait) = true)
    (na_Wait_table : PySem.W.findIn K (.ref CWait) "table" = some none)
    (ha_Wait : PySem.W.findIn K (.ref CWait) "__class__" = some (some (.builtin "object.__class__")))
    (hn_Wait : PySem.W.specialIn K (.builtin "object.__class__") "__get__" = some (some (.builtin "getset_descriptor.__get__")))
    (htk_Wait : PySem.W.takesIn K (.builtin "object.__class__") = some true)
    (hm_Wait : PySem.W.mroIn K CWait (.type "object") = some true)
    (g_Answer : PySem.W.nsIn K mainGlobals "Answer" = some (some (.ref CAnswer)))
    (g_Race : PySem.W.nsIn K mainGlobals "Race" = some (some (.ref CRace)))
    (kit_Wait_Answer : PySem.W.kitOne K (.ref CWait) (.ref CAnswer) = some true)
    (kit_Wait_Wait : PySem.W.kitOne K (.ref CWait) (.ref CWait) = some true)
    (kit_Wait_Race : PySem.W.kitOne K (.ref CWait) (.ref CRace) = some false)
    : ∃ fd : FuncData, (∀ (s : Shared) (v : Value), BindsTo s fd ⟨[v], []⟩ [("_law_script", v)]) ∧ ∀ base : Heap, K.In base → base.Ns mainGlobals mg → FnOk l.prog w K mg base CX0 4 fa fd ["_law_script"] (spLaw K) := by
  have e := hfa.symm.trans (PySem.W.mg_of X G a14)
  cases e
  have T : Tx K mg := { n_len := PySem.W.mg_none_of X G n_len, n_range := PySem.W.mg_none_of X G n_range, n_isinstance := PySem.W.mg_none_of X G n_isinstance, n_str := PySem.W.mg_none_of X G n_str, n_int := PySem.W.mg_none_of X G n_int, n_bool := PySem.W.mg_none_of X G n_bool, n_list := PySem.W.mg_none_of X G n_list, n_sum := PySem.W.mg_none_of X G n_sum, n_min := PySem.W.mg_none_of X G n_min, n_max := PySem.W.mg_none_of X G n_max, n_all := PySem.W.mg_none_of X G n_all, n_any := PySem.W.mg_none_of X G n_any, n_sorted := PySem.W.mg_none_of X G n_sorted, n_enumerate := PySem.W.mg_none_of X G n_enumerate, n_zip := PySem.W.mg_none_of X G n_zip, n_set := PySem.W.mg_none_of X G n_set, g_LETTERS := ⟨_, PySem.W.mg_of X G aL, by subst eL; exact ⟨_, rfl⟩⟩ }
  have cls_Wait : Cls K CWait := ⟨pg_Wait, hd_Wait, po_Wait, sa_Wait⟩
  have TW : TxW K mg CWait := ⟨cls_Wait, na_Wait_table⟩
  have TC : TxL K mg CWait CAnswer CRace := ⟨⟨cls_Wait, ha_Wait, hn_Wait, htk_Wait, hm_Wait⟩, PySem.W.mg_of X G g_Answer, PySem.W.mg_of X G g_Wait, PySem.W.mg_of X G g_Race, kit_Wait_Answer, kit_Wait_Wait, kit_Wait_Race⟩
  have F_is_throws := fun_mk (st := sIsThrows) l0 c0 k0
  have b_is_throws := F_is_throws.binds (ps := ["thing", "sides"]) fun _ _ _ _ _ _ us hl => match us, hl with | [_, _], _ => rfl
  have F_asked_word := fun_mk (st := sAskedWord) l1 c1 k1
  have b_asked_word := F_asked_word.binds (ps := ["word", "sides"]) fun _ _ _ _ _ _ us hl => match us, hl with | [_, _], _ => rfl
  have F_backs := fun_mk (st := sBacks) l2 c2 k2
  have b_backs := F_backs.binds (ps := ["word"]) fun _ _ _ _ _ _ us hl => match us, hl with | [_], _ => rfl
  have F_next_count := fun_mk (st := sNext) l3 c3 k3
  have b_next_count := F_next_count.binds (ps := ["word", "told", "many", "letter"]) fun _ _ _ _ _ _ us hl => match us, hl with | [_, _, _, _], _ => rfl
  have F_is_number := fun_mk (st := sIsNumber) l4 c4 k4
  have b_is_number := F_is_number.binds (ps := ["thing", "least", "most"]) fun _ _ _ _ _ _ us hl => match us, hl with | [_, _, _], _ => rfl
  have F_asked_sides := fun_mk (st := sAskedSides) l5 c5 k5
  have b_asked_sides := F_asked_sides.binds (ps := ["sides"]) fun _ _ _ _ _ _ us hl => match us, hl with | [_], _ => rfl
  have F_worths := fun_mk (st := sWorths) l6 c6 k6
  have b_worths := F_worths.binds (ps := ["sides", "word"]) fun _ _ _ _ _ _ us hl => match us, hl with | [_, _], _ => rfl
  have F_Wait___init__ := fun_mk (st := sWaitInit) l7 c7 k7
  have b_Wait___init__ := F_Wait___init__.binds (ps := ["self", "table"]) fun _ _ _ _ _ _ us hl => match us, hl with | [_, _], _ => rfl
  have F_Wait_shows := fun_mk (st := sWaitShows) l8 c8 k8
  have b_Wait_shows := F_Wait_shows.binds (ps := ["self", "sides", "word"]) fun _ _ _ _ _ _ us hl => match us, hl with | [_, _, _], _ => rfl
  have F_waits := fun_mk (st := sWaits) l9 c9 k9
  have b_waits := F_waits.binds (ps := ["sides", "word"]) fun _ _ _ _ _ _ us hl => match us, hl with | [_, _], _ => rfl
  have F__law_words := fun_mk (st := sLawWords) l10 c10 k10
  have b__law_words := F__law_words.binds (ps := ["_law_script"]) fun _ _ _ _ _ _ us hl => match us, hl with | [_], _ => rfl
  have F__law_longest := fun_mk (st := sLongest) l11 c11 k11
  have b__law_longest := F__law_longest.binds (ps := ["_law_word", "_law_throws"]) fun _ _ _ _ _ _ us hl => match us, hl with | [_, _], _ => rfl
  have F__law_numbers := fun_mk (st := sNumbers) l12 c12 k12
  have b__law_numbers := F__law_numbers.binds (ps := ["_law_found"]) fun _ _ _ _ _ _ us hl => match us, hl with | [_], _ => rfl
  have F__law_table := fun_mk (st := sTable) l13 c13 k13
  have b__law_table := F__law_table.binds (ps := ["_law_sides", "_law_word", "_law_table_here"]) fun _ _ _ _ _ _ us hl => match us, hl with | [_, _, _], _ => rfl
  have F_law := fun_mk (st := sLaw) l14 c14 k14
  refine ⟨PySem.W.fnOf "law" "law" (defArgs sLaw) (defBody sLaw) (defScope sLaw) .none kV14 dc14 pm14 an14 cd14 ct14, fun s v => .of_eq rfl, fun base _ _ => ?_⟩
  have C_is_throws : Ca l.prog w K mg base 1 "is_throws" spIsThrows := ⟨_, _, _, ok_is_throws T F_is_throws, PySem.W.mg_of X G a0, k0, b_is_throws⟩
  have C_asked_word : Ca l.prog w K mg base 2 "asked_word" spAskedWord := ⟨_, _, _, ok_asked_word T F_asked_word C_is_throws, PySem.W.mg_of X G a1, k1, b_asked_word⟩
  have C_backs : Ca l.prog w K mg base 1 "backs" spBacks := ⟨_, _, _, ok_backs T F_backs, PySem.W.mg_of X G a2, k2, b_backs⟩
  have C_next_count : Ca l.prog w K mg base 1 "next_count" (spNext K) := ⟨_, _, _, ok_next T F_next_count, PySem.W.mg_of X G a3, k3, b_next_count⟩
  have C_is_number : Ca l.prog w K mg base 1 "is_number" spIsNumber := ⟨_, _, _, ok_is_number T F_is_number, PySem.W.mg_of X G a4, k4, b_is_number⟩
  have C_asked_sides : Ca l.prog w K mg base 2 "asked_sides" spAskedSides := ⟨_, _, _, ok_asked_sides T F_asked_sides C_is_number, PySem.W.mg_of X G a5, k5, b_asked_sides⟩
  have C_worths : Ca l.prog w K mg base 2 "worths" spWorths := ⟨_, _, _, ok_worths T F_worths C_backs, PySem.W.mg_of X G a6, k6, b_worths⟩
  have N_Wait : Ma l.prog w K mg base 1 "Wait" CWait (spWaitInit CWait) := ⟨_, _, _, ⟨mk_Wait, a7, i7, kc_Wait⟩, ok_wait_init T TW F_Wait___init__, PySem.W.mg_of X G g_Wait, b_Wait___init__⟩
  have M_Wait_shows : Me l.prog w K mg base 2 CWait "shows" (spWaitShows CWait) := ⟨_, _, _, cls_Wait, ⟨a8, i8, k8⟩, ok_wait_shows T TW F_Wait_shows C_backs C_next_count, b_Wait_shows⟩
  have C_waits : Ca l.prog w K mg base 3 "waits" (spWaits CWait) := ⟨_, _, _, ok_waits T TW F_waits C_asked_sides C_asked_word C_worths N_Wait, PySem.W.mg_of X G a9, k9, b_waits⟩
  have C__law_words : Ca l.prog w K mg base 1 "_law_words" (spLawWords K) := ⟨_, _, _, ok_law_words T F__law_words, PySem.W.mg_of X G a10, k10, b__law_words⟩
  have C__law_longest : Ca l.prog w K mg base 1 "_law_longest" spLongest := ⟨_, _, _, ok_longest T F__law_longest, PySem.W.mg_of X G a11, k11, b__law_longest⟩
  have C__law_numbers : Ca l.prog w K mg base 1 "_law_numbers" spNumbers := ⟨_, _, _, ok_numbers T F__law_numbers, PySem.W.mg_of X G a12, k12, b__law_numbers⟩
  have C__law_table : Ca l.prog w K mg base 2 "_law_table" spTable := ⟨_, _, _, ok_table T F__law_table C__law_longest, PySem.W.mg_of X G a13, k13, b__law_table⟩
  exact ok_law T TW TC F_law C__law_words C__law_numbers C__law_table C_waits M_Wait_shows
theorem walk {l : PySem.W.OpenLaw} {q : Program} {loose : List Str} {XP : (Str → Option Value) → Heap → Prop} {YP : World → Heap → Prop} {d : DefRec} {K : Params → PySem.W.Frag} (hn : l.most = some 63) (hdf : d.params.defaults = [])
    (hY : ∀ (w : World) (h : Heap), YP w h → (K w.params).In h)
    (F : ∀ (w : World) (mg : Str → Option Value) (fa : Addr) (h : Heap), (K w.params).In h → h.Ns mainGlobals mg → mg d.name = some (.ref fa) →
      ∃ fd : FuncData, (∀ (s : Shared) (u : Value), BindsTo s fd ⟨[u], []⟩ [("_law_script", u)]) ∧ ∀ base : Heap, (K w.params).In base → base.Ns mainGlobals mg → FnOk l.prog w (K w.params) mg base CX0 4 fa fd ["_law_script"] (spLaw (K w.params))) :
    PySem.W.WalkO q loose XP YP l.row.toRowW d [] (fun f vs => PySem.call f vs) :=
  L2.walk_of (n := 63) (k := 4) (x := "_law_script") (CX := fun _ => CX0) (sp := fun w => spLaw (K w.params)) hn (by decide) hdf ⟨rfl, by decide, by decide⟩ hY F (fun _ _ a ns hl _ hS => ⟨a, ns, rfl, hS, hl, fun _ => rfl⟩) fun _ _ _ _ _ z => z
end Fw

open PySem PySem.W PyProof.Rows in
set_option maxRecDepth 100000 in
set_option maxHeartbeats 0 in
theorem PySem.Challenge.cw_firstword_k02_whole_waits_holds : PySem.Challenge.rw_firstword_k02_whole_waits.Holds := by
  w_on; o_law; k_head; (case hw => w_witness2)
  k_fill
  refine Fw.walk (l := PySem.Challenge.rw_firstword_k02_whole_waits) rfl rfl (fun w h Y => PySem.W.kIn_of Y) ?F
  case F =>
    intro w mg fa h KX G hmg
    refine' Fw.all_mk KX G hmg ?aL ?eL ?a0 ?l0 ?c0 ?k0 ?a1 ?l1 ?c1 ?k1 ?a2 ?l2 ?c2 ?k2 ?a3 ?l3 ?c3 ?k3 ?a4 ?l4 ?c4 ?k4 ?a5 ?l5 ?c5 ?k5 ?a6 ?l6 ?c6 ?k6 ?a7 ?i7 ?l7 ?c7 ?k7 ?a8 ?i8 ?l8 ?c8 ?k8 ?a9 ?l9 ?c9 ?k9 ?a10 ?l10 ?c10 ?k10 ?a11 ?l11 ?c11 ?k11 ?a12 ?l12 ?c12 ?k12 ?a13 ?l13 ?c13 ?k13 ?a14 ?l14 ?c14 ?k14 ?n_len ?n_range ?n_isinstance ?n_str ?n_int ?n_bool ?n_list ?n_sum ?n_min ?n_max ?n_all ?n_any ?n_sorted ?n_enumerate ?n_zip ?n_set ?g_Wait ?pg_Wait ?hd_Wait ?po_Wait ?sa_Wait ?mk_Wait ?kc_Wait ?na_Wait_table ?ha_Wait ?hn_Wait ?htk_Wait ?hm_Wait ?g_Answer ?g_Race ?kit_Wait_Answer ?kit_Wait_Wait ?kit_Wait_Race
    (case g_Wait => k_is)
    (case pg_Wait => k_is)
    (case hd_Wait => k_is)
    (case po_Wait => k_is)
    (case sa_Wait => k_is)
    (case mk_Wait => k_is)
    (case kc_Wait => k_is)
    (case na_Wait_table => k_is)
    (case ha_Wait => k_is)
    (case hn_Wait => k_is)
    (case htk_Wait => k_is)
    (case hm_Wait => k_is)
    (case g_Answer => k_is)
    (case g_Race => k_is)
    (case kit_Wait_Answer => first | k_is | rfl)
    (case kit_Wait_Wait => first | k_is | rfl)
    (case kit_Wait_Race => first | k_is | rfl)
    (case aL => k_is)
    (case eL => decide +kernel)
    (case a0 => k_is)
    (case l0 => k_is)
    (case c0 => k_is)
    (case k0 => k_is)
    (case a1 => k_is)
    (case l1 => k_is)
    (case c1 => k_is)
    (case k1 => k_is)
    (case a2 => k_is)
    (case l2 => k_is)
    (case c2 => k_is)
    (case k2 => k_is)
    (case a3 => k_is)
    (case l3 => k_is)
    (case c3 => k_is)
    (case k3 => k_is)
    (case a4 => k_is)
    (case l4 => k_is)
    (case c4 => k_is)
    (case k4 => k_is)
    (case a5 => k_is)
    (case l5 => k_is)
    (case c5 => k_is)
    (case k5 => k_is)
    (case a6 => k_is)
    (case l6 => k_is)
    (case c6 => k_is)
    (case k6 => k_is)
    (case a7 => k_is)
    (case i7 => k_is)
    (case l7 => k_is)
    (case c7 => k_is)
    (case k7 => k_is)
    (case a8 => k_is)
    (case i8 => k_is)
    (case l8 => k_is)
    (case c8 => k_is)
    (case k8 => k_is)
    (case a9 => k_is)
    (case l9 => k_is)
    (case c9 => k_is)
    (case k9 => k_is)
    (case a10 => k_is)
    (case l10 => k_is)
    (case c10 => k_is)
    (case k10 => k_is)
    (case a11 => k_is)
    (case l11 => k_is)
    (case c11 => k_is)
    (case k11 => k_is)
    (case a12 => k_is)
    (case l12 => k_is)
    (case c12 => k_is)
    (case k12 => k_is)
    (case a13 => k_is)
    (case l13 => k_is)
    (case c13 => k_is)
    (case k13 => k_is)
    (case a14 => k_is)
    (case l14 => k_is)
    (case c14 => k_is)
    (case k14 => k_is)
    (case n_len => k_is)
    (case n_range => k_is)
    (case n_isinstance => k_is)
    (case n_str => k_is)
    (case n_int => k_is)
    (case n_bool => k_is)
    (case n_list => k_is)
    (case n_sum => k_is)
    (case n_min => k_is)
    (case n_max => k_is)
    (case n_all => k_is)
    (case n_any => k_is)
    (case n_sorted => k_is)
    (case n_enumerate => k_is)
    (case n_zip => k_is)
    (case n_set => k_is)

