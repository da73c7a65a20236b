import PyProof.Rows.All
import Wide.All
import OpenK.AllK
import Wide.FinOn
import HandS.ForMost
import HandS.Evl
import HandS.StrMore
import HandS.IsInst
import HandS.Style
import HandS.Walk
import HandS.Wide
import KE.GoesEnum
import KE.KRevSl
import HandS.SortInts
import HandS.SetKeys
import HandS.More
import PyProof.Rows.StrFirst
import HandS.Exc
import HandS.ExcOwn
import HandS.WordsExc
import HandS.ExcIs
import HandS.SetFor
import HandS.ExcCtx
import HandS.Hot
import PySem.Challenge.RW_firstword_k06_answers_by_hand
namespace Fw
abbrev Wd := List Nat

/-! ### first letters at the end -/
theorem suf_len {a b : Wd} (h : a <:+ b) : a.length ≤ b.length := h.length_le
theorem suf_of {a b t : Wd} (ha : a <:+ t) (hb : b <:+ t) (h : a.length ≤ b.length) : a <:+ b := List.suffix_of_suffix_length_le ha hb h
theorem take_len {w : Wd} {k : Nat} (h : k ≤ w.length) : (w.take k).length = k := by
  rw [List.length_take]; omega
theorem take_more {α : Type} {w : List α} {k : Nat} {c : α} (h : w[k]? = some c) : w.take (k + 1) = w.take k ++ [c] := by
  rw [List.take_add_one, h]; rfl
theorem get_some {α : Type} {w : List α} {k : Nat} (h : k < w.length) : ∃ c, w[k]? = some c := ⟨w[k], List.getElem?_eq_getElem h⟩
theorem snoc_suf {a b : Wd} {c d : Nat} : a ++ [c] <:+ b ++ [d] ↔ a <:+ b ∧ c = d := by
  constructor
  · rintro ⟨u, e⟩
    rw [← List.append_assoc] at e
    obtain ⟨e1, e2⟩ := List.append_inj' e rfl
    exact ⟨⟨u, e1⟩, by simpa using e2⟩
  · rintro ⟨⟨u, e⟩, rfl⟩
    exact ⟨u, by rw [← e, List.append_assoc]⟩
theorem take_snoc {w t : Wd} {k c : Nat} (hk : k < w.length) : w.take (k + 1) <:+ t ++ [c] ↔ w.take k <:+ t ∧ w[k]? = some c := by
  obtain ⟨d, hd⟩ := get_some hk
  rw [take_more hd, snoc_suf, hd]
  simp

/-- the most of the first b letters of w that stand at the end of t -/
def lg (w t : Wd) : Nat → Nat
  | 0 => 0
  | k + 1 => if w.take (k + 1) <:+ t then k + 1 else lg w t k
def lng (w t : Wd) : Nat := lg w t w.length
/-- the most of less than k of the first letters that stand at the end of the first k -/
def fail (w : Wd) (k : Nat) : Nat := lg w (w.take k) (k - 1)
/-- the state behind one letter more -/
def nx (w : Wd) (m c : Nat) : Nat := lng w (w.take m ++ [c])

theorem lg_le (w t : Wd) : ∀ b, lg w t b ≤ b
  | 0 => Nat.le_refl _
  | b + 1 => by
    unfold lg; split
    · exact Nat.le_refl _
    · have := lg_le w t b; omega
theorem lg_st (w t : Wd) : ∀ b, w.take (lg w t b) <:+ t
  | 0 => by simp [lg]
  | b + 1 => by
    unfold lg; split
    · assumption
    · exact lg_st w t b
theorem lg_max {w t : Wd} {k : Nat} : ∀ {b}, k ≤ b → w.take k <:+ t → k ≤ lg w t b
  | 0, h, _ => by omega
  | b + 1, h, hs => by
    unfold lg; split
    · exact h
    · rename_i hn
      by_cases e : k = b + 1
      · subst e; exact absurd hs hn
      · exact lg_max (by omega) hs
theorem lg_uniq {w t : Wd} {b r : Nat} (h : r ≤ b) (hs : w.take r <:+ t) (hn : ∀ k, r < k → k ≤ b → ¬ w.take k <:+ t) : lg w t b = r := by
  have h1 := lg_max h hs
  by_cases e : lg w t b = r
  · exact e
  · exact absurd (lg_st w t b) (hn _ (by omega) (lg_le w t b))
theorem lng_le (w t : Wd) : lng w t ≤ w.length := lg_le _ _ _
theorem lng_st (w t : Wd) : w.take (lng w t) <:+ t := lg_st _ _ _
theorem lng_max {w t : Wd} {k : Nat} (h : k ≤ w.length) (hs : w.take k <:+ t) : k ≤ lng w t := lg_max h hs
theorem lng_len (w t : Wd) : lng w t ≤ t.length := by
  have h := suf_len (lng_st w t)
  rw [take_len (lng_le w t)] at h
  exact h
theorem lng_full {w t : Wd} : lng w t = w.length ↔ w <:+ t := by
  constructor
  · intro e
    have h := lng_st w t
    rw [e, List.take_length] at h
    exact h
  · intro h
    have h1 := lng_max (w := w) (t := t) (Nat.le_refl _) (by rw [List.take_length]; exact h)
    have h2 := lng_le w t
    omega
theorem lng_nil (w : Wd) : lng w [] = 0 := by
  have := lng_len w []
  simpa using this
/-- the law looks from the lesser of the two lengths -/
theorem lng_min (w t : Wd) : lg w t (min w.length t.length) = lng w t := by
  refine lg_uniq ?_ ?_ ?_ |>.symm ▸ rfl
  all_goals try exact lng w t
  · have := lng_le w t; have := lng_len w t; omega
  · exact lng_st w t
  · intro k h1 h2 h3
    have := lng_max (by omega) h3
    omega
theorem fail_lt {w : Wd} {k : Nat} (h : 0 < k) : fail w k < k := by
  have := lg_le w (w.take k) (k - 1)
  unfold fail; omega
theorem fail_st (w : Wd) (k : Nat) : w.take (fail w k) <:+ w.take k := lg_st _ _ _
theorem fail_max {w : Wd} {j k : Nat} (h : j < k) (hs : w.take j <:+ w.take k) : j ≤ fail w k := lg_max (by omega) hs
theorem fail_zero (w : Wd) : fail w 0 = 0 := rfl
theorem fail_one (w : Wd) : fail w 1 = 0 := rfl

/-- what stands at the end of t stands at the end of what stands there most -/
theorem st_lng {w t : Wd} {k : Nat} (hk : k ≤ w.length) : w.take k <:+ t ↔ w.take k <:+ w.take (lng w t) := by
  constructor
  · intro h
    refine suf_of h (lng_st w t) ?_
    rw [take_len hk, take_len (lng_le w t)]
    exact lng_max hk h
  · intro h
    exact h.trans (lng_st w t)
theorem lg_congr {w t u : Wd} {b : Nat} (h : ∀ k, k ≤ b → (w.take k <:+ t ↔ w.take k <:+ u)) : lg w t b = lg w u b := by
  refine lg_uniq (lg_le _ _ _) ((h _ (lg_le _ _ _)).mpr (lg_st _ _ _)) fun k h1 h2 h3 => ?_
  have := lg_max h2 ((h k h2).mp h3)
  omega
theorem lng_snoc (w t : Wd) (c : Nat) : lng w (t ++ [c]) = nx w (lng w t) c := by
  refine lg_congr fun k hk => ?_
  cases k with
  | zero => simp
  | succ k =>
    rw [take_snoc (by omega), take_snoc (by omega), st_lng (by omega)]
theorem nx_le (w : Wd) (m c : Nat) : nx w m c ≤ w.length := lng_le _ _

/-! ### the two loops -/
structure Desc (w t : Wd) (c B many : Nat) : Prop where
  lt : many < B
  st : w.take many <:+ t
  no : ∀ k, many < k → k < B → w.take k <:+ t → w[k]? ≠ some c
theorem Desc.step {w t : Wd} {c B many : Nat} (hB : B ≤ w.length) (h : Desc w t c B many) (hp : 0 < many) (hc : w[many]? ≠ some c) : Desc w t c B (fail w many) := by
  have hf := fail_lt (w := w) hp
  refine ⟨by have := h.lt; omega, (fail_st w many).trans h.st, fun k h1 h2 h3 => ?_⟩
  by_cases e : many < k
  · exact h.no k e h2 h3
  · by_cases e2 : k = many
    · subst e2; exact hc
    · have h4 : w.take k <:+ w.take many := suf_of h3 h.st (by rw [take_len (by omega), take_len (by have := h.lt; omega)]; omega)
      have := fail_max (by omega) h4
      omega
theorem Desc.hit {w t : Wd} {c B many : Nat} (hB : B ≤ w.length) (h : Desc w t c B many) (hc : w[many]? = some c) : lg w (t ++ [c]) B = many + 1 := by
  have hlt := h.lt
  refine lg_uniq (by omega) ((take_snoc (by omega)).mpr ⟨h.st, hc⟩) fun k h1 h2 h3 => ?_
  obtain ⟨k, rfl⟩ : ∃ j, k = j + 1 := ⟨k - 1, by omega⟩
  obtain ⟨h4, h5⟩ := (take_snoc (by omega)).mp h3
  exact h.no k (by omega) (by omega) h4 h5
theorem Desc.miss {w t : Wd} {c B : Nat} (hB : B ≤ w.length) (h : Desc w t c B 0) (hc : w[0]? ≠ some c) : lg w (t ++ [c]) B = 0 := by
  refine lg_uniq (Nat.zero_le _) (by simp) fun k h1 h2 h3 => ?_
  obtain ⟨k, rfl⟩ : ∃ j, k = j + 1 := ⟨k - 1, by omega⟩
  obtain ⟨h4, h5⟩ := (take_snoc (by omega)).mp h3
  by_cases e : k = 0
  · subst e; exact hc h5
  · exact h.no k (by omega) (by omega) h4 h5
theorem Desc.of_lt {w : Wd} {m c : Nat} (h : m < w.length) : Desc w (w.take m) c w.length m :=
  ⟨h, List.suffix_refl _, fun k h1 h2 h3 _ => by
    have := suf_len h3
    rw [take_len (by omega), take_len (by omega)] at this
    omega⟩
theorem Desc.of_full {w : Wd} {c : Nat} (h : 0 < w.length) : Desc w (w.take w.length) c w.length (fail w w.length) :=
  ⟨fail_lt h, fail_st w _, fun k h1 h2 h3 _ => by
    have := fail_max h2 h3
    omega⟩
theorem Desc.of_back {w : Wd} {c m : Nat} (h : 0 < m) : Desc w (w.take m) c m (fail w m) :=
  ⟨fail_lt h, fail_st w _, fun k h1 h2 h3 _ => by
    have := fail_max h2 h3
    omega⟩
theorem fail_more {w : Wd} {m c : Nat} (hc : w[m]? = some c) : fail w (m + 1) = lg w (w.take m ++ [c]) m := by
  unfold fail
  rw [take_more hc]; rfl

/-! ### the table of backs -/
/-- fail of 0 .. n, and 0 once more for a word of one letter or none: as the program makes it -/
def backs (w : Wd) : List Nat := (List.range (w.length + 1)).map (fail w)
def backsTo (w : Wd) (n : Nat) : List Nat := (List.range (n + 1)).map (fail w)
theorem backsTo_len (w : Wd) (n : Nat) : (backsTo w n).length = n + 1 := by simp [backsTo]
theorem backsTo_get {w : Wd} {n k : Nat} (h : k ≤ n) : (backsTo w n)[k]? = some (fail w k) := by
  unfold backsTo
  rw [List.getElem?_map, List.getElem?_range (by omega)]; rfl
theorem backsTo_one (w : Wd) : backsTo w 1 = [0, 0] := rfl
theorem backsTo_more (w : Wd) (n : Nat) : backsTo w (n + 1) = backsTo w n ++ [fail w (n + 1)] := by
  unfold backsTo
  rw [List.range_succ, List.map_append]; rfl

/-! ### overlaps -/
/-- the rising list of the counts up to k that are overlaps of w -/
def ovs (w t : Wd) (k : Nat) : List Nat := ((List.range k).map (· + 1)).filter fun j => decide (w.take j <:+ t)
theorem ovs_zero (w t : Wd) : ovs w t 0 = [] := rfl
theorem ovs_more (w t : Wd) (k : Nat) : ovs w t (k + 1) = ovs w t k ++ (if w.take (k + 1) <:+ t then [k + 1] else []) := by
  unfold ovs
  rw [List.range_succ, List.map_append, List.filter_append]
  congr 1
  by_cases h : w.take (k + 1) <:+ t <;> simp [h]
theorem ovs_none {w t : Wd} {j : Nat} : ∀ {k : Nat}, j ≤ k → (∀ i, j < i → i ≤ k → ¬ w.take i <:+ t) → ovs w t k = ovs w t j
  | 0, h, _ => by
    have : j = 0 := by omega
    subst this; rfl
  | k + 1, h, hn => by
    by_cases e : j = k + 1
    · subst e; rfl
    · rw [ovs_more, if_neg (hn _ (by omega) (Nat.le_refl _)), List.append_nil]
      exact ovs_none (by omega) fun i h1 h2 => hn i h1 (by omega)
/-- one turn of overlaps' loop -/
theorem ovs_fail {w : Wd} {k : Nat} (hk : 0 < k) (hkn : k ≤ w.length) (hs : w.take k <:+ w) : ovs w w k = ovs w w (fail w k) ++ [k] := by
  obtain ⟨j, rfl⟩ : ∃ j, k = j + 1 := ⟨k - 1, by omega⟩
  rw [ovs_more, if_pos hs]
  congr 1
  have hf := fail_lt (w := w) hk
  refine ovs_none (by omega) fun i h1 h2 h3 => ?_
  have := fail_max (w := w) (by omega : i < j + 1) (suf_of h3 hs (by rw [take_len (by omega), take_len (by omega)]; omega))
  omega
end Fw

namespace Fw
/-! ### leading numbers -/
/-- the sum of s^j over the counts j up to b of first letters of w that stand at the end of t -/
def lead (s : Int) (w t : Wd) : Nat → Int
  | 0 => 0
  | k + 1 => (if w.take (k + 1) <:+ t then s ^ (k + 1) else 0) + lead s w t k
def led (s : Int) (w t : Wd) : Int := lead s w t w.length

theorem lead_congr {s : Int} {w t u : Wd} : ∀ {b : Nat}, (∀ k, k ≤ b → (w.take k <:+ t ↔ w.take k <:+ u)) → lead s w t b = lead s w u b
  | 0, _ => rfl
  | b + 1, h => by
    unfold lead
    rw [lead_congr fun k hk => h k (by omega)]
    by_cases e : w.take (b + 1) <:+ t
    · rw [if_pos e, if_pos ((h _ (Nat.le_refl _)).mp e)]
    · rw [if_neg e, if_neg fun q => e ((h _ (Nat.le_refl _)).mpr q)]
theorem lead_none {s : Int} {w t : Wd} {j : Nat} : ∀ {b : Nat}, j ≤ b → (∀ k, j < k → k ≤ b → ¬ w.take k <:+ t) → lead s w t b = lead s w t j
  | 0, h, _ => by
    have : j = 0 := by omega
    subst this; rfl
  | b + 1, h, hn => by
    by_cases e : j = b + 1
    · subst e; rfl
    · show (if w.take (b + 1) <:+ t then s ^ (b + 1) else 0) + lead s w t b = _
      rw [if_neg (hn _ (by omega) (Nat.le_refl _)), Int.zero_add]
      exact lead_none (by omega) fun k h1 h2 => hn k h1 (by omega)
theorem lead_nonneg {s : Int} (hs : 0 ≤ s) (w t : Wd) : ∀ b, 0 ≤ lead s w t b
  | 0 => Int.le_refl _
  | b + 1 => by
    have := lead_nonneg hs w t b
    have h2 : 0 ≤ s ^ (b + 1) := Int.pow_nonneg hs
    unfold lead
    split <;> omega
/-- the number of a state by its count -/
def wth (s : Int) (w : Wd) (k : Nat) : Int := lead s w (w.take k) k
theorem wth_zero (s : Int) (w : Wd) : wth s w 0 = 0 := rfl
/-- the program's turn -/
theorem wth_more {s : Int} {w : Wd} {k : Nat} (hk : 0 < k) (hn : k ≤ w.length) : wth s w k = s ^ k + wth s w (fail w k) := by
  obtain ⟨j, rfl⟩ : ∃ j, k = j + 1 := ⟨k - 1, by omega⟩
  have hf := fail_lt (w := w) hk
  unfold wth
  show (if w.take (j + 1) <:+ w.take (j + 1) then s ^ (j + 1) else 0) + lead s w (w.take (j + 1)) j = _
  rw [if_pos (List.suffix_refl _)]
  congr 1
  rw [lead_none (j := fail w (j + 1)) (by omega) fun k h1 h2 h3 => by
    have := fail_max (w := w) (by omega : k < j + 1) h3
    omega]
  refine lead_congr fun k hk => ⟨fun h => ?_, fun h => h.trans (fail_st w _)⟩
  exact suf_of h (fail_st w _) (by rw [take_len (by omega), take_len (by omega)]; exact hk)
/-- the number hangs on the state alone -/
theorem led_wth (s : Int) (w t : Wd) : led s w t = wth s w (lng w t) := by
  unfold led wth
  rw [lead_none (j := lng w t) (lng_le w t) fun k h1 h2 h3 => by
    have := lng_max h2 h3
    omega]
  exact lead_congr fun k hk => st_lng (by have := lng_le w t; omega)
theorem lng_take {w : Wd} {k : Nat} (hk : k ≤ w.length) : lng w (w.take k) = k := by
  refine lg_uniq hk (List.suffix_refl _) fun j h1 h2 h3 => ?_
  have := suf_len h3
  rw [take_len (by omega), take_len hk] at this
  omega
theorem led_take {s : Int} {w : Wd} {k : Nat} (hk : k ≤ w.length) : led s w (w.take k) = wth s w k := by
  rw [led_wth, lng_take hk]

/-! ### sums over letters -/
def sumL (f : Nat → Int) (L : List Nat) : Int := (L.map f).sum
theorem sumL_nil (f : Nat → Int) : sumL f [] = 0 := rfl
theorem sumL_cons (f : Nat → Int) (a : Nat) (L : List Nat) : sumL f (a :: L) = f a + sumL f L := by
  simp [sumL]
theorem sumL_add (f g : Nat → Int) : ∀ L, sumL (fun c => f c + g c) L = sumL f L + sumL g L
  | [] => rfl
  | a :: L => by
    rw [sumL_cons, sumL_cons, sumL_cons, sumL_add f g L]; omega
theorem sumL_sub (f g : Nat → Int) : ∀ L, sumL (fun c => f c - g c) L = sumL f L - sumL g L
  | [] => rfl
  | a :: L => by
    rw [sumL_cons, sumL_cons, sumL_cons, sumL_sub f g L]; omega
theorem sumL_const (x : Int) : ∀ L : List Nat, sumL (fun _ => x) L = L.length * x
  | [] => by simp [sumL]
  | a :: L => by
    rw [sumL_cons, sumL_const x L, List.length_cons]
    have : ((L.length + 1 : Nat) : Int) = (L.length : Int) + 1 := by omega
    rw [this, Int.add_mul]; omega
theorem sumL_congr {f g : Nat → Int} : ∀ {L : List Nat}, (∀ c ∈ L, f c = g c) → sumL f L = sumL g L
  | [], _ => rfl
  | a :: L, h => by
    rw [sumL_cons, sumL_cons, h a (by simp), sumL_congr fun c hc => h c (by simp [hc])]
theorem sumL_zero {f : Nat → Int} {L : List Nat} (h : ∀ c ∈ L, f c = 0) : sumL f L = 0 := by
  rw [sumL_congr h, sumL_const]; omega
/-- one letter alone counts -/
theorem sumL_one {x : Int} {d : Nat} : ∀ {L : List Nat}, L.Nodup → d ∈ L → sumL (fun c => if d = c then x else 0) L = x
  | [], _, h => by simp at h
  | a :: L, hn, h => by
    obtain ⟨h1, h2⟩ := List.nodup_cons.mp hn
    rw [sumL_cons]
    by_cases e : d = a
    · subst e
      rw [if_pos rfl, sumL_zero fun c hc => if_neg fun q => h1 (by rw [q]; exact hc)]
      omega
    · rw [if_neg e, sumL_one h2 (by simpa [e] using h)]
      omega
/-- the letters of so many sides -/
def lets (s : Nat) : List Nat := (List.range s).map (· + 97)
theorem lets_len (s : Nat) : (lets s).length = s := by simp [lets]
theorem lets_nodup (s : Nat) : (lets s).Nodup := by
  unfold lets
  refine List.Pairwise.map _ ?_ (List.nodup_range)
  intro a b h q
  exact h (by omega)
theorem lets_mem {s c : Nat} : c ∈ lets s ↔ 97 ≤ c ∧ c < 97 + s := by
  unfold lets
  rw [List.mem_map]
  constructor
  · rintro ⟨a, h, rfl⟩
    have := List.mem_range.mp h
    omega
  · intro h
    exact ⟨c - 97, List.mem_range.mpr (by omega), by omega⟩
/-- a word over the first s letters -/
def Over (s : Nat) (w : Wd) : Prop := ∀ c ∈ w, 97 ≤ c ∧ c < 97 + s
theorem Over.get {s : Nat} {w : Wd} (h : Over s w) {k c : Nat} (e : w[k]? = some c) : c ∈ lets s :=
  lets_mem.mpr (h c (List.mem_of_getElem? e))

/-- all letters behind a text: the leading number as a game that is fair -/
theorem lead_fair {s : Int} {L : List Nat} (hL : L.Nodup) {w t : Wd} : ∀ {k : Nat}, k < w.length → (∀ c ∈ w, c ∈ L) →
    sumL (fun c => lead s w (t ++ [c]) (k + 1)) L = s * (1 + lead s w t k)
  | 0, hk, hw => by
    obtain ⟨d, hd⟩ := get_some hk
    have e : ∀ c ∈ L, lead s w (t ++ [c]) (0 + 1) = if d = c then s else 0 := fun c _ => by
      unfold lead
      have q : w.take (0 + 1) <:+ t ++ [c] ↔ d = c := by
        rw [take_snoc hk, hd]; simp
      by_cases z : d = c
      · rw [if_pos (q.mpr z), if_pos z]; simp [lead, Int.pow_succ]
      · rw [if_neg fun y => z (q.mp y), if_neg z]; simp [lead]
    rw [sumL_congr e, sumL_one hL (hw d (List.mem_of_getElem? hd))]
    simp [lead]
  | k + 1, hk, hw => by
    obtain ⟨d, hd⟩ := get_some hk
    have ih := lead_fair (s := s) hL (w := w) (t := t) (k := k) (by omega) hw
    have e : ∀ c ∈ L, lead s w (t ++ [c]) (k + 1 + 1) = (if d = c then (if w.take (k + 1) <:+ t then s ^ (k + 1 + 1) else 0) else 0) + lead s w (t ++ [c]) (k + 1) := fun c _ => by
      conv => lhs; unfold lead
      congr 1
      have q : w.take (k + 1 + 1) <:+ t ++ [c] ↔ w.take (k + 1) <:+ t ∧ d = c := by
        rw [take_snoc hk, hd]; simp
      by_cases z : d = c
      · by_cases y : w.take (k + 1) <:+ t
        · rw [if_pos (q.mpr ⟨y, z⟩), if_pos z, if_pos y]
        · rw [if_neg fun r => y (q.mp r).1, if_pos z, if_neg y]
      · rw [if_neg fun r => z (q.mp r).2, if_neg z]
    rw [sumL_congr e, sumL_add, ih, sumL_one hL (hw d (List.mem_of_getElem? hd))]
    have u : lead s w t (k + 1) = (if w.take (k + 1) <:+ t then s ^ (k + 1) else 0) + lead s w t k := rfl
    rw [u]
    by_cases y : w.take (k + 1) <:+ t
    · rw [if_pos y, if_pos y, Int.pow_succ, Int.mul_add, Int.mul_add, Int.mul_add, Int.mul_comm (s ^ (k + 1)) s]
      omega
    · rw [if_neg y, if_neg y]
      simp
theorem led_fair {s : Nat} {w t : Wd} (hw : Over s w) (h0 : 0 < w.length) (hn : ¬ w <:+ t) : sumL (fun c => led s w (t ++ [c])) (lets s) = s + s * led s w t := by
  obtain ⟨n, hn'⟩ : ∃ n, w.length = n + 1 := ⟨w.length - 1, by omega⟩
  have h := lead_fair (s := (s : Int)) (lets_nodup s) (w := w) (t := t) (k := n) (by omega) (fun c hc => lets_mem.mpr (hw c hc))
  unfold led
  rw [hn', h]
  have e : lead (s : Int) w t (n + 1) = lead s w t n := by
    show (if w.take (n + 1) <:+ t then (s : Int) ^ (n + 1) else 0) + lead s w t n = _
    rw [if_neg, Int.zero_add]
    rw [← hn', List.take_length]; exact hn
  rw [e, Int.mul_add]
  omega

/-! ### tables of waiting -/
/-- the told table -/
def tabl (s : Int) (w : Wd) : List Int := (List.range (w.length + 1)).map fun k => wth s w w.length - wth s w k
def at0 (T : List Int) (k : Nat) : Int := T.getD k 0
/-- what [3] asks of a table -/
def IsTab (s : Nat) (w : Wd) (T : List Int) : Prop :=
  T.length = w.length + 1 ∧ at0 T w.length = 0 ∧ ∀ k, k < w.length → (s : Int) * at0 T k = s + sumL (fun c => at0 T (nx w k c)) (lets s)
instance decTab (s : Nat) (w : Wd) (T : List Int) : Decidable (IsTab s w T) := by
  unfold IsTab
  exact inferInstance
theorem tabl_len (s : Int) (w : Wd) : (tabl s w).length = w.length + 1 := by simp [tabl]
theorem tabl_get {s : Int} {w : Wd} {k : Nat} (h : k ≤ w.length) : (tabl s w)[k]? = some (wth s w w.length - wth s w k) := by
  unfold tabl
  rw [List.getElem?_map, List.getElem?_range (by omega)]; rfl
theorem tabl_at {s : Int} {w : Wd} {k : Nat} (h : k ≤ w.length) : at0 (tabl s w) k = wth s w w.length - wth s w k := by
  unfold at0
  rw [List.getD_eq_getElem?_getD, tabl_get h]; rfl
theorem tabl_is {s : Nat} {w : Wd} (hw : Over s w) : IsTab s w (tabl s w) := by
  refine ⟨tabl_len _ _, ?_, fun k hk => ?_⟩
  · rw [tabl_at (Nat.le_refl _)]; omega
  · have e : ∀ c ∈ lets s, at0 (tabl s w) (nx w k c) = wth s w w.length - led s w (w.take k ++ [c]) := fun c _ => by
      rw [tabl_at (nx_le w k c), led_wth]; rfl
    rw [sumL_congr e, sumL_sub, sumL_const, lets_len, led_fair hw (by omega) (fun h => by
      have := suf_len h
      rw [take_len (by omega)] at this
      omega), led_take (by omega), tabl_at (by omega), Int.mul_sub]
    omega
/-- with one more at the first place it is none -/
theorem tabl_not {s : Nat} {w : Wd} (hw : Over s w) (h0 : 0 < w.length) {T : List Int} (hT : IsTab s w T) : ¬ IsTab s w (T.set 0 (at0 T 0 + 1)) := by
  rintro ⟨_, _, h⟩
  have h := h 0 h0
  have hl := hT.1
  have h1 := hT.2.2 0 h0
  obtain ⟨d, hd⟩ := get_some h0
  have e : ∀ c ∈ lets s, at0 (T.set 0 (at0 T 0 + 1)) (nx w 0 c) = at0 T (nx w 0 c) + (1 - if d = c then 1 else 0) := fun c _ => by
    have q : nx w 0 c = if d = c then 1 else 0 := by
      unfold nx
      by_cases z : d = c
      · rw [if_pos z]
        refine lg_uniq h0 ((take_snoc h0).mpr ⟨by simp, by rw [hd, z]⟩) fun k h1 h2 h3 => ?_
        have := suf_len h3
        rw [take_len h2] at this
        simp at this; omega
      · rw [if_neg z]
        refine lg_uniq (Nat.zero_le _) (by simp) fun k h1 h2 h3 => ?_
        have := suf_len h3
        rw [take_len h2] at this
        have k1 : k = 0 + 1 := by simp at this; omega
        subst k1
        have := ((take_snoc h0).mp h3).2
        rw [hd] at this
        exact z (Option.some.inj this)
    rw [q]
    by_cases z : d = c
    · rw [if_pos z, if_pos z]
      have e2 : at0 (T.set 0 (at0 T 0 + 1)) 1 = at0 T 1 := by
        conv => lhs; unfold at0
        rw [List.getD_eq_getElem?_getD, List.getElem?_set_ne (by omega)]
        unfold at0
        rw [List.getD_eq_getElem?_getD]
      rw [e2]
      omega
    · rw [if_neg z, if_neg z]
      have e2 : at0 (T.set 0 (at0 T 0 + 1)) 0 = at0 T 0 + 1 := by
        conv => lhs; unfold at0
        rw [List.getD_eq_getElem?_getD, List.getElem?_set_self (by omega), Option.getD_some]
        all_goals rfl
      rw [e2]
      omega
  rw [sumL_congr e, sumL_add, sumL_sub, sumL_const, lets_len, sumL_one (lets_nodup s) (hw.get hd)] at h
  have e0 : at0 (T.set 0 (at0 T 0 + 1)) 0 = at0 T 0 + 1 := by
    conv => lhs; unfold at0
    rw [List.getD_eq_getElem?_getD, List.getElem?_set_self (by omega)]; rfl
  rw [e0, Int.mul_add] at h
  omega
end Fw

namespace Fw
/-! ### two words -/
def mine (s : Int) (a b : Wd) : Int := wth s b b.length - wth s a (lng a b)
/-- the number of a state -/
def pr (s : Int) (a b t : Wd) : Int := mine s a b + led s a t - led s b t
theorem led_self (s : Int) (a : Wd) : led s a a = wth s a a.length := by
  rw [led_wth, lng_full.mpr (List.suffix_refl _)]
theorem mine_led (s : Int) (a b : Wd) : mine s a b = led s b b - led s a b := by
  unfold mine
  rw [led_self, led_wth]
theorem pr_fst (s : Int) (a b : Wd) : pr s a b a = mine s a b + mine s b a := by
  unfold pr
  rw [mine_led s b a]
  omega
theorem pr_snd (s : Int) (a b : Wd) : pr s a b b = 0 := by
  unfold pr
  rw [mine_led s a b]
  omega
theorem pr_swap (s : Int) (a b t : Wd) : pr s b a t = (mine s a b + mine s b a) - pr s a b t := by
  unfold pr
  omega
theorem pow_pos' {s : Int} (hs : 2 ≤ s) : ∀ k : Nat, 1 ≤ s ^ k
  | 0 => by simp
  | k + 1 => by
    have ih := pow_pos' hs k
    rw [Int.pow_succ]
    have : s ^ k * 1 ≤ s ^ k * s := Int.mul_le_mul_of_nonneg_left (by omega) (by omega)
    omega
theorem pow_step {s : Int} (hs : 2 ≤ s) (k : Nat) : 2 * s ^ k ≤ s ^ (k + 1) := by
  have ih := pow_pos' hs k
  rw [Int.pow_succ, Int.mul_comm (s ^ k) s]
  exact Int.mul_le_mul_of_nonneg_right hs (by omega)
theorem pow_mono {s : Int} (hs : 2 ≤ s) {j k : Nat} (h : j ≤ k) : s ^ j ≤ s ^ k := by
  induction h with
  | refl => exact Int.le_refl _
  | step _ ih =>
    rename_i m _
    have := pow_step hs m
    have := pow_pos' hs m
    show s ^ j ≤ s ^ (m + 1)
    omega
theorem lead_lt {s : Int} (hs : 2 ≤ s) (w t : Wd) : ∀ k, lead s w t k + 2 ≤ s ^ (k + 1)
  | 0 => by
    show (0 : Int) + 2 ≤ s ^ (0 + 1)
    rw [Int.pow_succ, Int.pow_zero, Int.one_mul]
    omega
  | k + 1 => by
    have ih := lead_lt hs w t k
    have h2 := pow_step hs (k + 1)
    have h3 := pow_pos' hs (k + 1)
    show (if w.take (k + 1) <:+ t then s ^ (k + 1) else 0) + lead s w t k + 2 ≤ s ^ (k + 1 + 1)
    split <;> omega
theorem lead_ge {s : Int} (hs : 0 ≤ s) {w t : Wd} {k : Nat} (h : w.take (k + 1) <:+ t) : s ^ (k + 1) ≤ lead s w t (k + 1) := by
  have := lead_nonneg hs w t k
  show s ^ (k + 1) ≤ (if w.take (k + 1) <:+ t then s ^ (k + 1) else 0) + lead s w t k
  rw [if_pos h]
  omega
theorem led_ge {s : Int} (hs : 0 ≤ s) {b : Wd} (h0 : 0 < b.length) : s ^ b.length ≤ led s b b := by
  obtain ⟨n, hn⟩ : ∃ n, b.length = n + 1 := ⟨b.length - 1, by omega⟩
  unfold led
  rw [hn]
  exact lead_ge hs (by rw [← hn, List.take_length]; exact List.suffix_refl _)
theorem inf_take {a b : Wd} {k : Nat} (h : b <:+: a.take k) : b <:+: a := h.trans (List.take_prefix k a).isInfix
/-- what ends b of a is less -/
theorem led_lt {s : Int} (hs : 2 ≤ s) {a b : Wd} (h0 : 0 < b.length) (h1 : ¬ a <:+: b) (h2 : ¬ b <:+: a) : led s a b + 2 ≤ s ^ b.length := by
  obtain ⟨n, hn⟩ : ∃ n, b.length = n + 1 := ⟨b.length - 1, by omega⟩
  unfold led
  by_cases h : a.length ≤ n
  · have := lead_lt hs a b a.length
    have := pow_mono hs (show a.length + 1 ≤ b.length by omega)
    omega
  · rw [lead_none (j := n) (by omega) fun k k1 k2 k3 => by
      have l1 := suf_len k3
      rw [take_len k2] at l1
      have e : a.take k = b := k3.eq_of_length (by rw [take_len k2]; omega)
      exact h2 (by rw [← e]; exact (List.take_prefix k a).isInfix)]
    have := lead_lt hs a b n
    rw [hn]
    exact this
theorem mine_pos {s : Int} (hs : 2 ≤ s) {a b : Wd} (h0 : 0 < b.length) (h1 : ¬ a <:+: b) (h2 : ¬ b <:+: a) : 2 ≤ mine s a b := by
  rw [mine_led]
  have := led_lt hs h0 h1 h2
  have := led_ge (s := s) (by omega) h0
  omega

/-! ### states -/
structure IsSts (a b : Wd) (L : List Wd) : Prop where
  up : L.Pairwise (· < ·)
  mem : ∀ t, t ∈ L ↔ t <+: a ∨ t <+: b
theorem IsSts.swap {a b : Wd} {L : List Wd} (h : IsSts a b L) : IsSts b a L := ⟨h.up, fun t => by rw [h.mem t]; exact Or.comm⟩
theorem IsSts.nodup {a b : Wd} {L : List Wd} (h : IsSts a b L) : L.Nodup := h.up.imp fun {x y} q e => by
  subst e
  exact List.lt_irrefl _ q
theorem sorted_uniq : ∀ {L M : List Wd}, L.Pairwise (· < ·) → M.Pairwise (· < ·) → (∀ t, t ∈ L ↔ t ∈ M) → L = M
  | [], [], _, _, _ => rfl
  | [], y :: M, _, _, h => absurd ((h y).mpr List.mem_cons_self) (by simp)
  | x :: L, [], _, _, h => absurd ((h x).mp List.mem_cons_self) (by simp)
  | x :: L, y :: M, h1, h2, h => by
    obtain ⟨a1, a2⟩ := List.pairwise_cons.mp h1
    obtain ⟨b1, b2⟩ := List.pairwise_cons.mp h2
    have e : x = y := by
      rcases List.mem_cons.mp ((h x).mp List.mem_cons_self) with e | e
      · exact e
      · rcases List.mem_cons.mp ((h y).mpr List.mem_cons_self) with e2 | e2
        · exact e2.symm
        · exact absurd (a1 y e2) (List.lt_asymm (b1 x e))
    subst e
    congr 1
    refine sorted_uniq a2 b2 fun t => ⟨fun ht => ?_, fun ht => ?_⟩
    · rcases List.mem_cons.mp ((h t).mp (List.mem_cons_of_mem _ ht)) with e | e
      · subst e
        exact absurd (a1 t ht) (List.lt_irrefl t)
      · exact e
    · rcases List.mem_cons.mp ((h t).mpr (List.mem_cons_of_mem _ ht)) with e | e
      · subst e
        exact absurd (b1 t ht) (List.lt_irrefl t)
      · exact e
theorem IsSts.uniq {a b : Wd} {L M : List Wd} (h : IsSts a b L) (g : IsSts a b M) : L = M := sorted_uniq h.up g.up fun t => by rw [h.mem, g.mem]
theorem IsSts.nil {a b : Wd} {L : List Wd} (h : IsSts a b L) : [] ∈ L := (h.mem []).mpr (Or.inl List.nil_prefix)
theorem IsSts.head {a b : Wd} {L : List Wd} (h : IsSts a b L) : ∃ R, L = [] :: R := by
  cases hL : L with
  | nil =>
    have := h.nil
    rw [hL] at this
    simp at this
  | cons x R =>
    have h1 := h.nil
    have h2 := h.up
    rw [hL] at h1 h2
    rcases List.mem_cons.mp h1 with e | e
    · exact ⟨R, by rw [e]⟩
    · exact absurd ((List.pairwise_cons.mp h2).1 [] e) (List.not_lt_nil x)
theorem IsSts.one {a b : Wd} {L : List Wd} (h : IsSts a b L) : a ∈ L := (h.mem a).mpr (Or.inl (List.prefix_refl a))
theorem IsSts.two {a b : Wd} {L : List Wd} (h : IsSts a b L) : b ∈ L := (h.mem b).mpr (Or.inr (List.prefix_refl b))
/-- the longest state at the end -/
def ledW (L : List Wd) : Wd → Wd
  | [] => []
  | c :: r => if (c :: r) ∈ L then c :: r else ledW L r
theorem ledW_suf (L : List Wd) : ∀ u, ledW L u <:+ u
  | [] => List.suffix_refl _
  | c :: r => by
    unfold ledW
    split
    · exact List.suffix_refl _
    · exact (ledW_suf L r).trans (List.suffix_cons c r)
theorem ledW_max {L : List Wd} {p : Wd} (hp : p ∈ L) : ∀ {u}, p <:+ u → p <:+ ledW L u
  | [], h => h
  | c :: r, h => by
    unfold ledW
    split
    · exact h
    · rename_i hn
      rcases List.suffix_cons_iff.mp h with e | e
      · rw [e] at hp
        exact absurd hp hn
      · exact ledW_max hp e
theorem ledW_mem {L : List Wd} (h0 : [] ∈ L) : ∀ u, ledW L u ∈ L
  | [] => h0
  | c :: r => by
    unfold ledW
    split
    · assumption
    · exact ledW_mem h0 r
theorem led_ledW {s : Int} {L : List Wd} {w : Wd} (h : ∀ k, w.take k ∈ L) (u : Wd) : led s w (ledW L u) = led s w u :=
  lead_congr fun k _ => ⟨fun q => q.trans (ledW_suf L u), fun q => ledW_max (h k) q⟩
theorem pr_ledW {s : Int} {a b : Wd} {L : List Wd} (h : IsSts a b L) (u : Wd) : pr s a b (ledW L u) = pr s a b u := by
  unfold pr
  rw [led_ledW (fun k => (h.mem _).mpr (Or.inl (List.take_prefix k a))), led_ledW (fun k => (h.mem _).mpr (Or.inr (List.take_prefix k b)))]
/-- each is the mean of those it leads to -/
theorem pr_fair {s : Nat} {a b : Wd} {L : List Wd} (h : IsSts a b L) (oa : Over s a) (ob : Over s b) (a0 : 0 < a.length) (b0 : 0 < b.length) (h1 : ¬ a <:+: b) (h2 : ¬ b <:+: a) {t : Wd} (ht : t ∈ L) (na : t ≠ a) (nb : t ≠ b) :
    (s : Int) * pr s a b t = sumL (fun c => pr s a b (ledW L (t ++ [c]))) (lets s) := by
  have ea : ¬ a <:+ t := fun q => by
    rcases (h.mem t).mp ht with z | z
    · exact na (z.eq_of_length (Nat.le_antisymm z.length_le q.length_le))
    · exact h1 (q.isInfix.trans z.isInfix)
  have eb : ¬ b <:+ t := fun q => by
    rcases (h.mem t).mp ht with z | z
    · exact h2 (q.isInfix.trans z.isInfix)
    · exact nb (z.eq_of_length (Nat.le_antisymm z.length_le q.length_le))
  have e : ∀ c ∈ lets s, pr s a b (ledW L (t ++ [c])) = (mine s a b + led s a (t ++ [c])) - led s b (t ++ [c]) := fun c _ => pr_ledW h _
  rw [sumL_congr e, sumL_sub, sumL_add, sumL_const, lets_len, led_fair oa a0 ea, led_fair ob b0 eb]
  unfold pr
  rw [Int.mul_sub, Int.mul_add]
  omega

/-! ### the states, one after the other -/
def insS (x : Wd) : List Wd → List Wd
  | [] => [x]
  | y :: r => if x < y then x :: y :: r else if x = y then y :: r else y :: insS x r
theorem mem_insS {x t : Wd} : ∀ {L : List Wd}, t ∈ insS x L ↔ t = x ∨ t ∈ L
  | [] => by simp [insS]
  | y :: r => by
    unfold insS
    split
    · simp
    · split
      · rename_i e
        subst e
        simp
      · rw [List.mem_cons, mem_insS (L := r), List.mem_cons]
        constructor
        · rintro (h | h | h)
          · exact Or.inr (Or.inl h)
          · exact Or.inl h
          · exact Or.inr (Or.inr h)
        · rintro (h | h | h)
          · exact Or.inr (Or.inl h)
          · exact Or.inl h
          · exact Or.inr (Or.inr h)
theorem up_insS {x : Wd} : ∀ {L : List Wd}, L.Pairwise (· < ·) → (insS x L).Pairwise (· < ·)
  | [], _ => by simp [insS]
  | y :: r, h => by
    obtain ⟨h1, h2⟩ := List.pairwise_cons.mp h
    unfold insS
    split
    · rename_i e
      exact List.pairwise_cons.mpr ⟨fun z hz => by
        rcases List.mem_cons.mp hz with q | q
        · subst q; exact e
        · exact List.lt_trans e (h1 z q), h⟩
    · split
      · exact h
      · rename_i e1 e2
        refine List.pairwise_cons.mpr ⟨fun z hz => ?_, up_insS h2⟩
        rcases mem_insS.mp hz with q | q
        · subst q
          by_cases c : y < z
          · exact c
          · rw [List.not_lt] at c e1
            exact absurd (List.le_antisymm c e1) e2
        · exact h1 z q
def pres (a : Wd) : List Wd := (List.range (a.length + 1)).map a.take
theorem mem_pres {a t : Wd} : t ∈ pres a ↔ t <+: a := by
  unfold pres
  rw [List.mem_map]
  constructor
  · rintro ⟨k, _, rfl⟩
    exact List.take_prefix k a
  · intro h
    exact ⟨t.length, List.mem_range.mpr (by have := h.length_le; omega), (List.prefix_iff_eq_take.mp h).symm⟩
def sts (a b : Wd) : List Wd := (pres a ++ pres b).foldr insS []
theorem sts_is (a b : Wd) : IsSts a b (sts a b) := by
  have g : ∀ M : List Wd, (M.foldr insS []).Pairwise (· < ·) ∧ ∀ t, t ∈ M.foldr insS [] ↔ t ∈ M := by
    intro M
    induction M with
    | nil => exact ⟨List.Pairwise.nil, fun t => Iff.rfl⟩
    | cons x M ih =>
      refine ⟨up_insS ih.1, fun t => ?_⟩
      show t ∈ insS x (M.foldr insS []) ↔ _
      rw [mem_insS, ih.2, List.mem_cons]
  refine ⟨(g _).1, fun t => ?_⟩
  unfold sts
  rw [(g _).2, List.mem_append, mem_pres, mem_pres]
theorem nodup_of_up {L : List Wd} (h : L.Pairwise (· < ·)) : L.Nodup := h.imp fun {x y} q e => by
  subst e
  exact List.lt_irrefl _ q
theorem sts_len (a b : Wd) : (sts a b).length ≤ a.length + b.length + 2 := by
  have hi : ∀ (x : Wd) (L : List Wd), (insS x L).length ≤ L.length + 1 := fun x L => by
    induction L with
    | nil => simp [insS]
    | cons y r ih =>
      unfold insS
      split
      · simp
      · split
        · simp
        · simp only [List.length_cons]
          omega
  have g : ∀ M : List Wd, (M.foldr insS []).length ≤ M.length := fun M => by
    induction M with
    | nil => exact Nat.le_refl _
    | cons x M ih =>
      have := hi x (M.foldr insS [])
      show (insS x (M.foldr insS [])).length ≤ M.length + 1
      omega
  have := g (pres a ++ pres b)
  unfold sts
  unfold pres at this ⊢
  simp only [List.length_append, List.length_map, List.length_range] at this
  omega
/-- along a text: how many first letters stand at the end of each beginning -/
def alongTo (w t : Wd) (n : Nat) : List Nat := (List.range (n + 1)).map fun k => lng w (t.take k)
theorem alongTo_len (w t : Wd) (n : Nat) : (alongTo w t n).length = n + 1 := by simp [alongTo]
theorem alongTo_get {w t : Wd} {n k : Nat} (h : k ≤ n) : (alongTo w t n)[k]? = some (lng w (t.take k)) := by
  unfold alongTo
  rw [List.getElem?_map, List.getElem?_range (by omega)]; rfl
theorem alongTo_more (w t : Wd) (n : Nat) : alongTo w t (n + 1) = alongTo w t n ++ [lng w (t.take (n + 1))] := by
  unfold alongTo
  rw [List.range_succ, List.map_append]; rfl
theorem pr_two {s : Int} {a b : Wd} {k : Nat} (hk : k ≤ b.length) : mine s a b + wth s a (lng a (b.take k)) - wth s b k = pr s a b (b.take k) := by
  unfold pr
  rw [led_take hk, led_wth]
theorem pr_one {s : Int} {a b : Wd} {k : Nat} (hk : k ≤ a.length) : mine s a b + wth s a k - wth s b (lng b (a.take k)) = pr s a b (a.take k) := by
  unfold pr
  rw [led_take hk, led_wth]

/-! ### numbers by states -/
def partOf (L : List Wd) (ps : List Int) (t : Wd) : Int := ps.getD (L.idxOf t) 0
/-- what [4] asks of parts and a whole -/
def IsRace (s : Nat) (a b : Wd) (L : List Wd) (ps : List Int) (whole : Int) : Prop :=
  1 ≤ whole ∧ ps.length = L.length ∧ partOf L ps a = whole ∧ partOf L ps b = 0 ∧ ∀ t ∈ L, t ≠ a → t ≠ b → (s : Int) * partOf L ps t = sumL (fun c => partOf L ps (ledW L (t ++ [c]))) (lets s)
instance decRace (s : Nat) (a b : Wd) (L : List Wd) (ps : List Int) (whole : Int) : Decidable (IsRace s a b L ps whole) := by
  unfold IsRace
  exact inferInstance
theorem partOf_map {L : List Wd} {f : Wd → Int} {t : Wd} (h : t ∈ L) : partOf L (L.map f) t = f t := by
  unfold partOf
  have hl := List.idxOf_lt_length_of_mem h
  rw [List.getD_eq_getElem?_getD, List.getElem?_map, List.getElem?_eq_getElem hl, List.getElem_idxOf hl]
  rfl
theorem partOf_get {L : List Wd} {ps : List Int} {t : Wd} {i : Nat} {v : Int} (hn : L.Nodup) (h : L[i]? = some t) (hv : ps[i]? = some v) : partOf L ps t = v := by
  unfold partOf
  obtain ⟨hl, e⟩ := List.getElem?_eq_some_iff.mp h
  have : L.idxOf t = i := by
    rw [← e]
    exact List.Nodup.idxOf_getElem hn i hl
  rw [this, List.getD_eq_getElem?_getD, hv]
  rfl
theorem race_is {s : Nat} {a b : Wd} {L : List Wd} (hs : 2 ≤ s) (h : IsSts a b L) (oa : Over s a) (ob : Over s b) (a0 : 0 < a.length) (b0 : 0 < b.length) (h1 : ¬ a <:+: b) (h2 : ¬ b <:+: a) :
    IsRace s a b L (L.map (pr s a b)) (mine s a b + mine s b a) := by
  have m1 := mine_pos (s := (s : Int)) (by omega) b0 h1 h2
  have m2 := mine_pos (s := (s : Int)) (by omega) a0 h2 h1
  refine ⟨by omega, by rw [List.length_map], ?_, ?_, fun t ht na nb => ?_⟩
  · rw [partOf_map h.one, pr_fst]
  · rw [partOf_map h.two, pr_snd]
  · rw [partOf_map ht, pr_fair h oa ob a0 b0 h1 h2 ht na nb]
    exact sumL_congr fun c _ => (partOf_map (ledW_mem h.nil _)).symm
theorem sumL_le {f g : Nat → Int} : ∀ {L : List Nat}, (∀ c ∈ L, f c ≤ g c) → sumL f L ≤ sumL g L
  | [], _ => Int.le_refl _
  | a :: L, h => by
    rw [sumL_cons, sumL_cons]
    have h1 := h a (by simp)
    have h2 := sumL_le (f := f) (g := g) (L := L) fun c hc => h c (by simp [hc])
    omega
/-- with one more at the first place they are none -/
theorem race_not {s : Nat} {a b : Wd} {L : List Wd} {ps : List Int} {whole : Int} (h : IsSts a b L) (oa : Over s a) (a0 : 0 < a.length) (b0 : 0 < b.length) (hR : IsRace s a b L ps whole) : ¬ IsRace s a b L (ps.set 0 (ps.getD 0 0 + 1)) whole := by
  rintro ⟨_, _, _, _, g⟩
  obtain ⟨R, hL⟩ := h.head
  have na : ([] : Wd) ≠ a := fun e => by rw [← e] at a0; exact absurd a0 (by simp)
  have nb : ([] : Wd) ≠ b := fun e => by rw [← e] at b0; exact absurd b0 (by simp)
  have g1 := g [] h.nil na nb
  have g0 := hR.2.2.2.2 [] h.nil na nb
  have hlen := hR.2.1
  have i0 : L.idxOf ([] : Wd) = 0 := by rw [hL]; simp
  have p0 : partOf L (ps.set 0 (ps.getD 0 0 + 1)) [] = partOf L ps [] + 1 := by
    unfold partOf
    rw [i0]
    rw [List.getD_eq_getElem?_getD, List.getElem?_set_self (by rw [hlen, hL]; simp)]
    rfl
  have pn : ∀ t, t ≠ [] → partOf L (ps.set 0 (ps.getD 0 0 + 1)) t = partOf L ps t := fun t ht => by
    unfold partOf
    have : L.idxOf t ≠ 0 := by
      rw [hL, List.idxOf_cons]
      have : (([] : Wd) == t) = false := by
        rw [beq_eq_false_iff_ne]
        exact fun e => ht e.symm
      rw [this]
      simp
    rw [List.getD_eq_getElem?_getD, List.getElem?_set_ne (Ne.symm this), List.getD_eq_getElem?_getD]
  obtain ⟨d, hd⟩ := get_some a0
  have hdm : [d] ∈ L := (h.mem _).mpr (Or.inl ⟨a.drop 1, by
    cases ha : a with
    | nil => rw [ha] at a0; exact absurd a0 (by simp)
    | cons x r =>
      rw [ha] at hd
      have : x = d := by simpa using hd
      subst this
      rfl⟩)
  have e : ∀ c ∈ lets s, partOf L (ps.set 0 (ps.getD 0 0 + 1)) (ledW L ([] ++ [c])) ≤ partOf L ps (ledW L ([] ++ [c])) + (1 - if d = c then 1 else 0) := fun c _ => by
    by_cases z : d = c
    · subst z
      have : ledW L ([] ++ [d]) = [d] := by
        show (if [d] ∈ L then [d] else ledW L []) = [d]
        rw [if_pos hdm]
      rw [this, pn _ (by simp), if_pos rfl]
      omega
    · rw [if_neg z]
      by_cases y : ledW L ([] ++ [c]) = []
      · rw [y, p0]
        omega
      · rw [pn _ y]
        omega
  have k := sumL_le e
  rw [sumL_add, sumL_sub, sumL_const, lets_len, sumL_one (lets_nodup s) (oa.get hd)] at k
  rw [p0, Int.mul_add] at g1
  omega
end Fw

-- The likelier word of a coin: a flipped letter ahead, the last one left out.
namespace Fw
theorem suf_at {w t : Wd} {j i : Nat} (h : w.take j <:+ t) (hj : j ≤ w.length) (hi : i < j) : w[i]? = t[t.length - j + i]? := by
  obtain ⟨p, hp⟩ := h
  have hl : p.length + j = t.length := by
    have := congrArg List.length hp
    rw [List.length_append, take_len hj] at this
    exact this
  have e : t.length - j + i = p.length + i := by omega
  rw [e, ← hp, List.getElem?_append_right (by omega), Nat.add_sub_cancel_left, List.getElem?_take, if_pos hi]
theorem lead_up {s : Int} (hs : 0 ≤ s) (w t : Wd) : ∀ {j k : Nat}, j ≤ k → lead s w t j ≤ lead s w t k := by
  intro j k
  induction k with
  | zero => intro h; rw [Nat.le_zero.mp h]; exact Int.le_refl _
  | succ k ih =>
    intro h
    rcases Nat.lt_or_ge j (k + 1) with q | q
    · have h1 := ih (by omega)
      have h2 : lead s w t k ≤ lead s w t (k + 1) := by
        have hp : (0 : Int) ≤ s ^ (k + 1) := Int.pow_nonneg hs
        simp only [lead]
        split <;> omega
      omega
    · rw [show j = k + 1 by omega]; exact Int.le_refl _
theorem lead_top {s : Int} (w t : Wd) (k : Nat) : lead s w t (k + 1) ≤ s ^ (k + 1) + lead s w t k ∨ ¬ w.take (k + 1) <:+ t := by
  simp only [lead]
  split
  · exact Or.inl (by omega)
  · exact Or.inr (by assumption)
/-- The word one letter later, with another letter ahead than the other's second. -/
structure Ahead (a b : Wd) : Prop where
  le : a.length = b.length
  n3 : 3 ≤ b.length
  sh : ∀ i, i + 1 < b.length → a[i + 1]? = b[i]?
  no : a[0]? ≠ b[1]?
theorem Ahead.ne {a b : Wd} (h : Ahead a b) : a ≠ b := fun e => by
  have h1 := h.sh 0 (by have := h.n3; omega)
  rw [e] at h1
  exact h.no (by rw [e]; exact h1.symm)
theorem Ahead.noFst {a b : Wd} (h : Ahead a b) : ¬ a <:+: b := fun q => h.ne (q.eq_of_length h.le)
theorem Ahead.noSnd {a b : Wd} (h : Ahead a b) : ¬ b <:+: a := fun q => h.ne (q.eq_of_length h.le.symm).symm
theorem Ahead.likely {a b : Wd} (h : Ahead a b) : mine 2 b a < mine 2 a b := by
  have hn := h.n3
  have hl := h.le
  obtain ⟨n, hN⟩ : ∃ n, b.length = n + 3 := ⟨b.length - 3, by omega⟩
  have p2 : ∀ k : Nat, (2 : Int) ^ (k + 1) = 2 * 2 ^ k := fun k => by rw [Int.pow_succ]; omega
  have pp : ∀ k : Nat, (1 : Int) ≤ 2 ^ k := pow_pos' (by decide)
  have q2 : ∀ k : Nat, (2 : Int) ^ (k + 2) = 4 * 2 ^ k := fun k => by rw [Int.pow_succ, Int.pow_succ]; omega
  have q3 : ∀ k : Nat, (2 : Int) ^ (k + 3) = 8 * 2 ^ k := fun k => by rw [Int.pow_succ, Int.pow_succ, Int.pow_succ]; omega
  have w2 := q3 n
  have w1 := q2 n
  have w0 := p2 n
  have a2 : a[2]? = b[1]? := h.sh 1 (by omega)
  have a1 : a[1]? = b[0]? := h.sh 0 (by omega)
  rw [mine_led, mine_led]
  -- the second word in the first
  have hBA : (2 : Int) ^ (n + 2) ≤ led 2 b a := by
    have hs : b.take (n + 1 + 1) <:+ a := by
      have : b.take (n + 2) = a.drop 1 := by
        apply List.ext_getElem?
        intro i
        rw [List.getElem?_take, List.getElem?_drop]
        split
        · rw [Nat.add_comm]; exact (h.sh i (by omega)).symm
        · rw [List.getElem?_eq_none (by omega)]
      rw [this]
      exact List.drop_suffix _ _
    exact Int.le_trans (lead_ge (by decide) hs) (lead_up (by decide) _ _ (by omega))
  -- the first in itself
  have hAA : led 2 a a + 2 ≤ 2 ^ (n + 3) + 2 ^ (n + 1) := by
    have s1 : ¬ a.take (n + 2) <:+ a := fun q => h.no (by
      have e0 := suf_at q (by omega) (i := 0) (by omega)
      have e1 := suf_at q (by omega) (i := 1) (by omega)
      rw [show a.length - (n + 2) + 0 = 1 by omega] at e0
      rw [show a.length - (n + 2) + 1 = 2 by omega] at e1
      rw [e0, e1, a2])
    have s2 : ¬ a.take (n + 1) <:+ a := fun q => h.no (by
      have e0 := suf_at q (by omega) (i := 0) (by omega)
      rw [show a.length - (n + 1) + 0 = 2 by omega] at e0
      rw [e0, a2])
    have hle := lead_lt (s := 2) (by decide) a a n
    have e := lead_none (s := 2) (w := a) (t := a) (j := n) (b := n + 2) (by omega) (fun k k1 k2 => by
      rcases Nat.lt_or_ge k (n + 2) with q | q
      · rw [show k = n + 1 by omega]; exact s2
      · rw [show k = n + 2 by omega]; exact s1)
    have hu : led 2 a a = lead 2 a a (n + 2 + 1) := by rw [led, hl, hN]
    have := lead_top (s := 2) a a (n + 2)
    rcases this with q | q
    · rw [hu]; rw [e] at q; rw [show n + 2 + 1 = n + 3 from rfl] at q; rw [show n + 2 + 1 = n + 3 from rfl]; omega
    · exact absurd (by rw [List.take_of_length_le (by omega)]; exact List.suffix_refl a) q
  -- the first in the second
  have t1 : ¬ a.take (n + 3) <:+ b := fun q => h.ne (by
    rw [List.take_of_length_le (by omega)] at q
    exact q.eq_of_length hl)
  have t2 : ¬ a.take (n + 2) <:+ b := fun q => h.no (by
    have e0 := suf_at q (by omega) (i := 0) (by omega)
    rw [show b.length - (n + 2) + 0 = 1 by omega] at e0
    exact e0)
  have hAB : led 2 a b = lead 2 a b (n + 1) := by
    rw [led, hl, hN]
    refine lead_none (by omega) fun k k1 k2 => ?_
    rcases Nat.lt_or_ge k (n + 3) with q | q
    · rw [show k = n + 2 by omega]; exact t2
    · rw [show k = n + 3 by omega]; exact t1
  have hBB : (2 : Int) ^ (n + 3) + lead 2 b b (n + 2) ≤ led 2 b b := by
    have hu : led 2 b b = lead 2 b b (n + 2 + 1) := by rw [led, hN]
    have hs : b.take (n + 2 + 1) <:+ b := by rw [List.take_of_length_le (by omega)]; exact List.suffix_refl b
    rw [hu]
    simp only [lead]
    rw [if_pos hs]
    omega
  have hB0 := lead_nonneg (s := 2) (by decide) b b (n + 2)
  have pn := pp n
  have L1 := lead_lt (s := 2) (by decide) a b n
  rcases lead_top (s := 2) a b n with q | q
  · by_cases c : a.take (n + 1) <:+ b
    · have at2 : ∀ i, i < n + 1 → a[i]? = b[2 + i]? := fun i hi => by
        have e0 := suf_at c (by omega) hi
        rw [show b.length - (n + 1) + i = 2 + i by omega] at e0
        exact e0
      have hb : b.take n <:+ b := by
        have : b.take n = b.drop 3 := by
          apply List.ext_getElem?
          intro i
          rw [List.getElem?_take, List.getElem?_drop]
          split
          · rw [← h.sh i (by omega), at2 (i + 1) (by omega)]
            rw [show 2 + (i + 1) = 3 + i by omega]
          · rw [List.getElem?_eq_none (by omega)]
        rw [this]
        exact List.drop_suffix _ _
      match n, hN, q, c, at2, hb, hBA, hAA, t1, t2, hAB, hBB, hB0, w2, w1, w0, pn, L1 with
      | 0, _, q, _, _, _, hBA, hAA, _, _, hAB, hBB, hB0, _, _, _, _, L1 =>
        simp [lead] at *
        omega
      | 1, _, q, _, _, hb, hBA, hAA, _, _, hAB, hBB, hB0, _, _, _, _, L1 =>
        have hb' := lead_ge (s := 2) (by decide) hb
        have := lead_up (s := 2) (by decide) b b (j := 1) (k := 3) (by omega)
        simp at *
        omega
      | m + 2, hN, q, c, at2, hb, hBA, hAA, _, _, hAB, hBB, hB0, w2, w1, w0, pn, L1 =>
        have hb' : (2 : Int) ^ (m + 2) ≤ lead 2 b b (m + 2) := lead_ge (s := 2) (by decide) hb
        have hb2 := lead_up (s := 2) (by decide) b b (j := m + 2) (k := m + 2 + 2) (by omega)
        have u3 : ¬ a.take (m + 2) <:+ b := fun r => h.no (by
          have e0 := suf_at r (by omega) (i := 0) (by omega)
          have e1 := suf_at r (by omega) (i := 1) (by omega)
          rw [show b.length - (m + 2) + 0 = 2 + 1 by omega] at e0
          rw [show b.length - (m + 2) + 1 = 2 + 2 by omega] at e1
          rw [e0, ← at2 1 (by omega), e1, ← at2 2 (by omega), a2])
        have u4 : ¬ a.take (m + 1) <:+ b := fun r => h.no (by
          have e0 := suf_at r (by omega) (i := 0) (by omega)
          rw [show b.length - (m + 1) + 0 = 2 + 2 by omega] at e0
          rw [e0, ← at2 2 (by omega), a2])
        have e := lead_none (s := 2) (w := a) (t := b) (j := m) (b := m + 2) (by omega) (fun k k1 k2 => by
          rcases Nat.lt_or_ge k (m + 2) with z | z
          · rw [show k = m + 1 by omega]; exact u4
          · rw [show k = m + 2 by omega]; exact u3)
        have L2 := lead_lt (s := 2) (by decide) a b m
        have v1 := q2 m
        have v0 := p2 m
        have hc2 : lead 2 a b (m + 2 + 1) ≤ 2 ^ (m + 2 + 1) + lead 2 a b (m + 2) := q
        have v3 := p2 (m + 2)
        have v4 := q2 (m + 2)
        have v5 := q3 (m + 2)
        rw [e] at hc2
        rw [hAB]
        have pm := pp m
        omega
    · have : lead 2 a b (n + 1) = lead 2 a b n := by simp only [lead]; rw [if_neg c]; omega
      omega
  · have : lead 2 a b (n + 1) = lead 2 a b n := by simp only [lead]; rw [if_neg q]; omega
    omega
/-- The likelier word. -/
def flip (c : Nat) : Nat := if c = 97 then 98 else 97
def lk (b : Wd) : Wd := flip (b.getD 1 0) :: b.dropLast
theorem lk_len {b : Wd} (h : 0 < b.length) : (lk b).length = b.length := by simp [lk]; omega
theorem lk_over {b : Wd} (h : Over 2 b) : Over 2 (lk b) := fun c hc => by
  rcases List.mem_cons.mp hc with rfl | q
  · unfold flip
    split <;> omega
  · exact h c (List.dropLast_subset _ q)
theorem lk_ahead {b : Wd} (h : 3 ≤ b.length) : Ahead (lk b) b := by
  refine ⟨lk_len (by omega), h, fun i hi => ?_, ?_⟩
  · rw [lk, List.getElem?_cons_succ, List.getElem?_dropLast, if_pos (by omega)]
  · rw [lk, List.getElem?_cons_zero]
    obtain ⟨c, hc⟩ := get_some (w := b) (k := 1) (by omega)
    rw [List.getD_eq_getElem?_getD, hc]
    intro q
    have := Option.some.inj q
    simp only [Option.getD_some, flip] at this
    split at this <;> omega
end Fw

set_option Elab.async false
set_option linter.all false
set_option maxRecDepth 100000
set_option maxHeartbeats 4000000
namespace Fw
open PySem PySem.Spec PyProof.Rows L2 Evl

/-! ### a def of the module that raises nothing, by its name -/
structure Ca (P : Program) (w : World) (K : PySem.W.Frag) (mg : Str → Option Value) (base : Heap) (k : Nat) (x : Str) (sp : Sp) : Prop where
  ex : ∃ (f : Addr) (fd : FuncData) (ps : List Str), FnOk P w K mg base CX0 k f fd ps sp ∧ mg x = some (.ref f) ∧ PySem.W.keepIn K (.ref f) = true ∧ Binds K fd ps []
section
variable {X : Cx} {k j : Nat} {x : Str} {sp : Sp} {p pos : Pos} {e : Expr} {es : List Expr} {t : TA}
theorem pe_ca (c : Ca X.prog X.w X.K X.mg X.base k x sp) (hr : Room j X.A) (ha : PA X (e :: es) t) (hk : k ≤ j := by decide) (hg : Gl X x := by rfl)
    (hdb : (x == ("__debug__" : Str)) = false := by decide) (he : starEach (e :: es) X.env = (false, eval e X.env) :: starEach es X.env := by rfl) (hpl : (backTo pos (starEach es X.env)).any (·.1) = false := by rfl) :
    PE X (.Call (.Name x p) (e :: es) [] pos) (tCall sp [] E0 t) := by
  obtain ⟨f, fd, ps, F, hm, kp, b⟩ := c.ex
  exact pe_call F (hr.mono hk) hg hm kp b .nil pass0 ha hdb he hpl
/-- a constant of the module -/
theorem pe_gcn {x : Str} {v : V} {pos : Pos} (h : ∃ u, X.mg x = some u ∧ RelV v u) (hg : Gl X x := by rfl) (hd : (x == ("__debug__" : Str)) = false := by decide) : PE X (.Name x pos) (tC v) := by
  obtain ⟨u, hm, r⟩ := h
  exact pe_glob hg hm r hd
end

section
variable {X : Cx}
/-- a built-in class as a value -/
theorem pe_ty {x : Str} {pos : Pos} (n : String) (hm : X.mg x = none) (hg : Gl X x := by rfl) (hv : bootBuiltins x = some (.type n) := by decide +kernel) (hn : x ≠ ("__name__" : Str) := by decide) (hd : (x == ("__debug__" : Str)) = false := by decide) : PE X (.Name x pos) (tC (.ty n)) :=
  pe_bltn hg hm hv rfl hn hd
end

/-! ### promises -/
/-- a value is handed back, what is tracked stands -/
def PV (R : List V → Hp → V → Prop) : Sp := fun vs H Q _ => ∃ z, R vs H z ∧ RetV z H Q
/-- a new list is handed back -/
def PL (R : List V → Hp → List V → Prop) : Sp := fun vs H Q _ => ∃ xs, R vs H xs ∧ RetL xs H Q
section
variable {σ : L2.St} {H : Hp} {ta : TA} {te tb : TE} {vs : List V} {E : XK} {z : V} {K : PySem.W.Frag}
theorem ev_pv {R : List V → Hp → V → Prop} (h : EvA ta σ H vs) (hr : ∀ H1, Ex H H1 → R vs H1 z) : Ev (tCall (PV R) [] E ta) σ H z :=
  ev_call h fun H1 e Q q _ => ⟨z, by rw [List.append_nil]; exact hr H1 e, q⟩
theorem el_pl {R : List V → Hp → List V → Prop} {xs : List V} (h : EvA ta σ H vs) (hr : ∀ H1, Ex H H1 → R vs H1 xs) : EvL (tCall (PL R) [] E ta) σ H xs :=
  el_call h fun H1 e Q q _ => ⟨xs, by rw [List.append_nil]; exact hr H1 e, q⟩

/-! ### texts -/
abbrev S (l : List Nat) : Str := ⟨l.toArray⟩
theorem S_len (l : List Nat) : (S l).length = l.length := by simp [Str.length]
theorem S_inj {a b : List Nat} (h : S a = S b) : a = b := by
  have := congrArg (fun z : Str => z.cps.toList) h
  simpa using this
theorem S_eq {a b : List Nat} : decide (V.str (S a) = V.str (S b)) = decide (a = b) := by
  by_cases h : a = b
  · subst h; simp
  · rw [decide_eq_false h, decide_eq_false]
    intro q
    exact h (S_inj (V.str.inj q))
theorem S_app (a b : List Nat) : S a ++ S b = S (a ++ b) := TL.ext_tl (by rw [TL.tl_append])
theorem sl_ok {n : Nat} (h : n ≤ 100000) : n ≤ sizeLine := sz_of h
/-- an int list as values -/
abbrev iV (l : List Int) : List V := l.map V.int
abbrev nI (l : List Nat) : List Int := l.map fun (k : Nat) => (k : Int)

abbrev rLenT : List V → Hp → VK → Prop := fun xs H Q => ∃ z : Str, xs = [.str z] ∧ z.length ≤ sizeLine ∧ Q (.int z.length) H
theorem ev_lenT {z : Str} (h : Ev te σ H (.str z)) (hz : z.length ≤ 100000) : Ev (tCB rLenT (tCons te tNil)) σ H (.int (z.length : Int)) := fun H1 e Q q =>
  h H1 e _ fun H2 e2 => ⟨z, rfl, sl_ok hz, q H2 e2⟩
theorem ev_lenS {w : List Nat} (h : Ev te σ H (.str (S w))) (hz : w.length ≤ 100000) : Ev (tCB rLenT (tCons te tNil)) σ H (.int (w.length : Int)) := by
  have := ev_lenT h (by rw [S_len]; exact hz)
  rw [S_len] at this
  exact this
theorem rv_item {w : List Nat} {k c : Nat} (hz : w.length ≤ 100000) (hc : w[k]? = some c) : RV rIxS (.str (S w)) (.int (k : Int)) H (.str (S [c])) :=
  rv_ixS (by rw [S_len]; exact hz) (atI_nat hc)
/-- item of a list of ints -/
theorem rv_iL {p : Addr} {ns : List Int} {k : Nat} {v : Int} (h : SqL K H p (iV ns)) (hv : ns[k]? = some v) : RV (rIxL K) (.ref p) (.int (k : Int)) H (.int v) :=
  rv_ixL h (atI_nat (by rw [List.getElem?_map, hv]; rfl))
theorem atI_neg1 {α : Type} {xs : List α} {v : α} (h : xs[xs.length - 1]? = some v) (h0 : 0 < xs.length) : atI xs (-1) = some v := by
  unfold atI ixN
  rw [if_neg (by omega), if_pos (by omega)]
  have : ((-1 : Int) + (xs.length : Int)).toNat = xs.length - 1 := by omega
  show xs[((-1 : Int) + (xs.length : Int)).toNat]? = some v
  rw [this]; exact h
theorem rv_iLast {p : Addr} {ns : List Int} {v : Int} (h : SqL K H p (iV ns)) (h0 : 0 < ns.length) (hv : ns[ns.length - 1]? = some v) : RV (rIxL K) (.ref p) (.int (-1)) H (.int v) :=
  rv_ixL h (atI_neg1 (by rw [List.length_map, List.getElem?_map, hv]; rfl) (by rw [List.length_map]; exact h0))
abbrev rAddT : R2 := fun x y H Q => ∃ i j : Str, x = .str i ∧ y = .str j ∧ i.length + j.length ≤ sizeLine ∧ Q (.str (i ++ j)) H
theorem rv_addS {a b : List Nat} (h : a.length + b.length ≤ 100000) : RV rAddT (.str (S a)) (.str (S b)) H (.str (S (a ++ b))) := fun H1 e Q q =>
  ⟨S a, S b, rfl, rfl, sl_ok (by rw [S_len, S_len]; exact h), by rw [S_app]; exact q H1 (Ex.refl H1)⟩
theorem rv_eqS {a b : List Nat} : RV rEq (.str (S a)) (.str (S b)) H (.bl (decide (a = b))) := fun H1 e Q q => ⟨rfl, by rw [S_eq]; exact q H1 (Ex.refl H1)⟩
theorem rv_neS {a b : List Nat} : RV rNe (.str (S a)) (.str (S b)) H (.bl (!decide (a = b))) := fun H1 e Q q => ⟨rfl, by rw [S_eq]; exact q H1 (Ex.refl H1)⟩
theorem one_eq {a b : Nat} : decide (V.str (S [a]) = V.str (S [b])) = decide (a = b) := by
  rw [S_eq]
  simp
theorem rv_eqC {a b : Nat} : RV rEq (.str (S [a])) (.str (S [b])) H (.bl (decide (a = b))) := fun H1 e Q q => ⟨rfl, by rw [one_eq]; exact q H1 (Ex.refl H1)⟩
theorem rv_neC {a b : Nat} : RV rNe (.str (S [a])) (.str (S [b])) H (.bl (!decide (a = b))) := fun H1 e Q q => ⟨rfl, by rw [one_eq]; exact q H1 (Ex.refl H1)⟩
theorem int_eq {a b : Int} : decide (V.int a = V.int b) = decide (a = b) := by
  by_cases h : a = b
  · subst h; simp
  · rw [decide_eq_false h, decide_eq_false]
    intro q
    exact h (V.int.inj q)
theorem rv_eqI {a b : Int} : RV rEq (.int a) (.int b) H (.bl (decide (a = b))) := fun H1 e Q q => ⟨rfl, by rw [int_eq]; exact q H1 (Ex.refl H1)⟩
theorem rv_neI {a b : Int} : RV rNe (.int a) (.int b) H (.bl (!decide (a = b))) := fun H1 e Q q => ⟨rfl, by rw [int_eq]; exact q H1 (Ex.refl H1)⟩

/-! ### slices of texts -/
theorem ev_slT {z : Str} {tl th : TO} {lo hi : Option Int} (h : Ev te σ H (.str z)) (h1 : EvO tl σ H lo) (h2 : EvO th σ H hi) (hz : z.length ≤ 100000) : Ev (tSl rSlS te tl th) σ H (.str (cutS z lo hi)) := fun H1 e Q q =>
  h H1 e _ fun H2 e2 => h1 H2 (e.trans e2) _ fun H3 e3 => h2 H3 ((e.trans e2).trans e3) _ fun H4 e4 => ⟨z, rfl, sl_ok hz, q H4 ((e2.trans e3).trans e4)⟩
theorem cut_to (w : List Nat) (k : Nat) : cutS (S w) none (some (k : Int)) = S (w.take k) := by
  unfold cutS
  rw [HT.sIx_none, S_len, HT.sIx_nat, List.drop_zero, Nat.sub_zero]
  congr 2
  show w.take (min k w.length) = w.take k
  rcases Nat.le_total k w.length with h | h
  · rw [Nat.min_eq_left h]
  · rw [Nat.min_eq_right h, List.take_length, List.take_of_length_le h]
theorem cut_from (w : List Nat) (k : Nat) : cutS (S w) (some (k : Int)) none = S (w.drop k) := by
  unfold cutS
  rw [HT.sIx_none, S_len, HT.sIx_nat]
  congr 2
  show (w.drop (min k w.length)).take (w.length - min k w.length) = w.drop k
  rcases Nat.le_total k w.length with h | h
  · rw [Nat.min_eq_left h, List.take_of_length_le (by rw [List.length_drop]; omega)]
  · rw [Nat.min_eq_right h, List.drop_of_length_le h, List.drop_of_length_le (Nat.le_refl _), List.take_nil]
theorem ev_to {w : List Nat} {th : TO} {k : Nat} (h : Ev te σ H (.str (S w))) (h2 : EvO th σ H (some (k : Int))) (hz : w.length ≤ 100000) : Ev (tSl rSlS te tNoPart th) σ H (.str (S (w.take k))) := by
  rw [← cut_to]
  exact ev_slT h eo_none h2 (by rw [S_len]; exact hz)
theorem ev_from {w : List Nat} {tl : TO} {k : Nat} (h : Ev te σ H (.str (S w))) (h2 : EvO tl σ H (some (k : Int))) (hz : w.length ≤ 100000) : Ev (tSl rSlS te tl tNoPart) σ H (.str (S (w.drop k))) := by
  rw [← cut_from]
  exact ev_slT h h2 eo_none (by rw [S_len]; exact hz)
theorem eo_is {te : TE} {i : Int} {k : Nat} (h : Ev te σ H (.int i)) (e : i = (k : Int)) : EvO (tPart te) σ H (some (k : Int)) := by
  rw [← e]
  exact eo_some h

/-! ### a text times a number -/
theorem rep_cps (a : List Nat) : ∀ n : Nat, (List.replicate n a.toArray).foldl (· ++ ·) #[] = ((List.replicate n a).flatten).toArray := by
  have gen : ∀ (n : Nat) (acc : Array Nat), (List.replicate n a.toArray).foldl (· ++ ·) acc = acc ++ ((List.replicate n a).flatten).toArray := by
    intro n
    induction n with
    | zero => intro acc; simp
    | succ n ih =>
      intro acc
      rw [List.replicate_succ, List.foldl_cons, ih, List.replicate_succ, List.flatten_cons]
      simp
  intro n
  rw [gen]; simp
theorem mul_is (a : List Nat) (n : Nat) : Txt.mul (S a) (n : Int) = S (List.replicate n a).flatten := by
  unfold Txt.mul
  by_cases h : (n : Int) < 1
  · have e : n = 0 := by omega
    subst e
    rw [if_pos h]; rfl
  · rw [if_neg h]
    by_cases h2 : ((n : Int) == 1 || (S a).length == 0) = true
    · rw [if_pos h2]
      rcases Bool.or_eq_true_iff.mp h2 with q | q
      · have e : n = 1 := by
          have := beq_iff_eq.mp q
          omega
        subst e
        simp
      · have e := beq_iff_eq.mp q
        rw [S_len] at e
        have e2 : a = [] := List.length_eq_zero_iff.mp e
        subst e2
        simp
    · rw [if_neg h2]
      show (⟨(List.replicate (n : Int).toNat a.toArray).foldl (· ++ ·) #[]⟩ : Str) = _
      rw [Int.toNat_natCast, rep_cps]
def rMulT : R2 := fun x y H Q => ∃ (z : Str) (i : Int), x = .str z ∧ y = .int i ∧ 0 ≤ i ∧ i ≤ 100000 ∧ z.length * i.toNat ≤ 100000 ∧ Q (.str (Txt.mul z i)) H
theorem op_mulS {X : Cx} : OpR X (binaryOp .Mult) rMulT := by
  intro pins s σ H x y u v Q I rx ry h
  obtain ⟨z, i, rfl, rfl, h0, h1, h2, q⟩ := h
  obtain ⟨t, rfl⟩ := rx
  obtain ⟨t2, rfl⟩ := ry
  refine PySem.SB.mul ⟨?_, fun hi hz q2 => ?_, fun hi hz => ?_⟩ fun t' k => ⟨.str (Txt.mul z i), H, I.tok k, ⟨t', rfl⟩, q⟩
  · rw [decide_eq_false (by omega), decide_eq_false (by omega)]; rfl
  · obtain ⟨n, rfl⟩ := Int.eq_ofNat_of_zero_le h0
    have hn : 1 ≤ n := by omega
    have h3 : z.length ≤ 100000 := Nat.le_trans (by
      have := Nat.le_mul_of_pos_right z.length (show 0 < ((n : Nat) : Int).toNat by omega)
      exact this) h2
    have h4 : (100000 : Int) ≤ (2 ^ 63 - 1) / (n : Int) := by
      refine (Int.le_ediv_iff_mul_le (by omega)).mpr ?_
      omega
    omega
  · show decide (z.length * i.toNat > sizeLine) = false
    exact decide_eq_false (Nat.not_lt.mpr (sl_ok h2))
theorem rv_mulS {a : List Nat} {n : Nat} (h1 : n ≤ 100000) (h2 : a.length * n ≤ 100000) : RV rMulT (.str (S a)) (.int (n : Int)) H (.str (S (List.replicate n a).flatten)) := fun H1 e Q q =>
  ⟨S a, n, rfl, rfl, by omega, by omega, by rw [S_len, Int.toNat_natCast]; exact h2, by rw [mul_is]; exact q H1 (Ex.refl H1)⟩

/-! ### stripping letters -/
theorem strip_none {a b : List Nat} : Txt.stripChars (S a) (S b) = S [] ↔ ∀ c ∈ a, c ∈ b := by
  obtain ⟨l1, l2, l3⟩ := PyProof.Rows.lo_facts (S b).cps.contains (S a)
  obtain ⟨h1, h2, h3, h4⟩ := PyProof.Rows.hi_facts (S b).cps.contains (S a) (PySem.stripLo (S b).cps.contains true (S a)) l1
  have hn := S_len a
  have con : ∀ k c, a[k]? = some c → (S b).cps.contains ((S a).cps.getD k 0) = decide (c ∈ b) := fun k c hc => by
    rw [← PyProof.Rows.getD_list]
    show b.toArray.contains (a.getD k 0) = _
    rw [List.getD_eq_getElem?_getD, hc]
    simp
  show Txt.stripBy (S b).cps.contains true true (S a) = S [] ↔ _
  rw [PyProof.Rows.stripBy_eq]
  generalize PySem.stripLo (S b).cps.contains true (S a) = lo at *
  generalize PySem.stripHi (S b).cps.contains true (S a) lo = hi at *
  have e : Builtin.Str.strSub (S a) lo hi = S [] ↔ hi ≤ lo := by
    constructor
    · intro q
      have q2 : (Builtin.Str.strSub (S a) lo hi).cps.toList.length = 0 := by rw [q]; rfl
      rw [PySem.StrLaws.strSub_toList] at q2
      have q3 : ((a.drop lo).take (hi - lo)).length = 0 := q2
      rw [List.length_take, List.length_drop] at q3
      omega
    · intro q
      refine TL.ext_tl ?_
      show (Builtin.Str.strSub (S a) lo hi).cps.toList = []
      rw [PySem.StrLaws.strSub_toList, show hi - lo = 0 from by omega, List.take_zero]
  rw [e]
  constructor
  · intro q c hc
    obtain ⟨k, hk⟩ := List.mem_iff_getElem?.mp hc
    have hlt := (List.getElem?_eq_some_iff.mp hk).1
    have := con k c hk
    by_cases z : k < lo
    · have y := l2 k z
      rw [this] at y
      exact of_decide_eq_true y
    · have y := h3 k (by omega) (by omega)
      rw [this] at y
      exact of_decide_eq_true y
  · intro q
    rcases l3 with z | z
    · omega
    · by_cases hlt : lo < a.length
      · obtain ⟨c, hc⟩ : ∃ c, a[lo]? = some c := ⟨a[lo], List.getElem?_eq_getElem hlt⟩
        rw [con lo c hc] at z
        exact absurd (q c (List.mem_of_getElem? hc)) (of_decide_eq_false z)
      · omega
theorem ends_is (a b : List Nat) : Txt.endswith (S a) (S b) = decide (b <:+ a) := by
  unfold Txt.endswith
  rw [PySem.StrLaws.subAt_eq, S_len, S_len]
  show (decide (0 + b.length ≤ a.length) && ((a.drop (a.length - b.length)).take b.length == b)) = _
  rw [Nat.zero_add, Bool.eq_iff_iff, Bool.and_eq_true, decide_eq_true_eq, decide_eq_true_eq, beq_iff_eq]
  constructor
  · rintro ⟨h1, h2⟩
    rw [List.take_of_length_le (by rw [List.length_drop]; omega)] at h2
    have h3 := List.take_append_drop (a.length - b.length) a
    rw [h2] at h3
    exact ⟨_, h3⟩
  · rintro ⟨u, rfl⟩
    refine ⟨by rw [List.length_append]; omega, ?_⟩
    rw [List.length_append, Nat.add_sub_cancel, List.drop_left, List.take_length]
theorem in_is (a b : List Nat) : (!(Builtin.Str.occurrences (S a) (S b) 0 (S a).length 1).isEmpty) = decide (b <:+: a) := by
  rw [Bool.eq_iff_iff, PySem.StrLaws.found_iff, decide_eq_true_eq, S_len, S_len]
  constructor
  · rintro ⟨i, h1, h2⟩
    rw [PySem.StrLaws.subAt_eq, S_len] at h2
    have h2 : (a.drop i).take b.length = b := beq_iff_eq.mp h2
    refine ⟨a.take i, (a.drop i).drop b.length, ?_⟩
    rw [List.append_assoc]
    conv => lhs; rw [← h2]
    rw [h2]
    have : (a.drop i).take b.length ++ (a.drop i).drop b.length = a.drop i := List.take_append_drop _ _
    rw [h2] at this
    rw [this, List.take_append_drop]
  · rintro ⟨u, v, rfl⟩
    refine ⟨u.length, by simp only [List.length_append]; omega, ?_⟩
    rw [PySem.StrLaws.subAt_eq, S_len]
    show ((List.drop u.length (u ++ b ++ v)).take b.length == b) = true
    rw [List.append_assoc, List.drop_left, List.take_left, beq_self_eq_true]
end
end Fw

set_option Elab.async false
set_option linter.all false
set_option maxRecDepth 100000
set_option maxHeartbeats 4000000
namespace Fw
open PySem PySem.Spec PyProof.Rows L2 Evl
/-! ### for i, c in enumerate(text) -/
def ItES (x : Str) : It :=
  ⟨fun i _ => i < x.cps.size, fun i H v H' => ∃ T c, v = .ref T ∧ H T = none ∧ H' = upd H T (.tup [.int (i : Nat), .str ⟨#[c]⟩]) ∧ x.cps[i]? = some c, fun i _ => i = x.cps.size⟩
theorem turn_enumS {P : Program} {w : World} {K : PySem.W.Frag} {elts : List Expr} {kk : Nat} {tpos : Pos} (e it : Addr) (x : Str) (t : Tok) :
    Turn P w K (.Tuple elts kk tpos) (ItES x) [e, it] e (fun i h => (∃ old, IsEnum h e it ((i : Nat) : Int) old) ∧ h.IsStrIter it (strIterType x) x t i ∧ e ≠ it) where
  mem := by simp
  obj := fun i h st b hb => by
    obtain ⟨⟨old, he⟩, ⟨o, ho, hc, hd⟩, _⟩ := st
    have e' : b = e ∨ b = it := by simpa using hb
    rcases e' with z | z
    · rw [z]; exact ⟨_, he, fun v q => nomatch q⟩
    · rw [z]; exact ⟨o, ho, fun v q => by rw [hd] at q; cases q⟩
  keep := fun i h h' st k => let ⟨⟨old, he⟩, ⟨o, ho, r⟩, hne⟩ := st; ⟨⟨old, k e (by simp) _ he⟩, ⟨o, k it (by simp) o ho, r⟩, hne⟩
  item := by
    intro X hP hw hK hc i pins s σ H E I hf st hg
    subst hP hw hK
    obtain ⟨⟨old, he⟩, hit, hne⟩ := st
    have hel : e < s.heap.objs.size := Heap.lt_size he
    have hil : it < s.heap.objs.size := by obtain ⟨_, q, _⟩ := hit; exact Heap.lt_size q
    have D := Draws.text (prog := X.prog) (w := X.w) (A := X.A.in1) (I.ok.hd hc) it x t
    refine wpAny_pyNext_enum_itemC D he hit hg hne (by simpa using hne) fun y h' tk hP ho hit' hT hsz hk => ?_
    obtain ⟨c, u, hcx, rfl⟩ := hP
    refine ⟨_, rfl, wpAny_letOwnedTupleGo_enum (s := { s with heap := h', toks := tk + 1 }) ho fun h'' he' sb => ?_⟩
    have hT2 : h''.get? s.heap.objs.size = some { cls := .type "tuple", data := .seq #[.int i tk, .str ⟨#[c]⟩ u] } := (sb.2 _ (Nat.ne_of_gt hel)).trans hT
    have new : ObjOk X.prog X.w (upd H s.heap.objs.size (.tup [.int (i : Nat), .str ⟨#[c]⟩])) h'' s.heap.objs.size (.tup [.int (i : Nat), .str ⟨#[c]⟩]) :=
      ⟨by show 2 ≤ sizeLine; decide, [.int i tk, .str ⟨#[c]⟩ u], .cons ⟨_, rfl⟩ (.cons ⟨_, rfl⟩ .nil), ⟨_, hT2, rfl, _, rfl⟩⟩
    have I1 : Inv X pins σ (upd H s.heap.objs.size (.tup [.int (i : Nat), .str ⟨#[c]⟩])) { s with heap := h'', toks := tk + 1 } :=
      I.turnedNew (ch := [e, it]) (fun b ob hb q => (sb.2 b (fun z => hb (by simp [z]))).trans (hk b ob (fun z => hb (by simp [z])) (fun z => hb (by simp [z])) q)) hf (Nat.le_refl _) new
    refine ⟨.ref s.heap.objs.size, _, I1, rfl, ⟨_, c, rfl, I.hok.fresh (Nat.le_refl _), rfl, hcx⟩, ⟨⟨.str ⟨#[c]⟩ u, ?_⟩, ?_, hne⟩, fun b hb => ?_⟩
    · have e1 : ((i + 1 : Nat) : Int) = (i : Int) + 1 := by omega
      rw [e1]; exact he'
    · obtain ⟨o, q1, q2⟩ := hit'
      exact ⟨o, (sb.2 it (Ne.symm hne)).trans q1, q2⟩
    · have hb' : b < s.heap.objs.size := by
        have e' : b = e ∨ b = it := by simpa using hb
        rcases e' with z | z
        · rw [z]; exact hel
        · rw [z]; exact hil
      rw [upd_ne (Nat.ne_of_lt hb')]
      exact (hf b hb).1
  done := by
    intro X hP hw hK hc i pins s σ H E I hf st hg
    subst hP hw hK
    obtain ⟨⟨old, he⟩, hit, hne⟩ := st
    obtain ⟨f0, f1, f2, f3, f4, f5⟩ := hf it (by simp)
    have D := Draws.text (prog := X.prog) (w := X.w) (A := X.A.in1) (I.ok.hd hc) it x t
    subst hg
    exact wpAny_pyNext_enum_endD D he hit fun h' eb => ⟨rfl, I.turned (t' := s.toks) (fun b o hb q => eb b o hb q) f0 f1 f3 f4 f5⟩
  self := fun A i s Q E st h => let ⟨⟨_, he⟩, _⟩ := st; wpAny_pyIter_enum he h
def iEnS (ta : TA) : TI := fun σ H R => ta σ H fun vs H1 => ∃ x, vs = [.str x] ∧ R (ItES x) H1
theorem pi_enumS {X : Cx} {e : Expr} {ta : TA} {p pos tpos : Pos} {elts : List Expr} {kk : Nat} (hg : Gl X "enumerate") (hm : X.mg "enumerate" = none) (ha : PA X [e] ta) (hs : starEach [e] X.env = [(false, eval e X.env)] := by rfl) :
    PI X (.Tuple elts kk tpos) (.Call (.Name "enumerate" p) [e] [] pos) (iEnS ta) := by
  refine ⟨fun pins s σ H R I h => ?_⟩
  refine Call_ (ld_blt I hg hm boot_enumerate (PyProof.Rows.callWith_type1 (thn (ha.run pos pins s σ H _ I h) fun us s1 ⟨vs, H1, I1, r1, q1⟩ => ?_) hs rfl))
  obtain ⟨x, ex, q⟩ := q1
  subst ex
  cases r1 with
  | cons r rr =>
    cases rr
    obtain ⟨t, rfl⟩ := r
    refine call_enumerate_str fun h' he hit hsz hk => wpAny_pyIter_enum he ?_
    have I2 : Inv X pins σ H1 { s1 with heap := h' } := I1.kept (t' := s1.toks) hk
    refine ⟨s1.heap.objs.size + 1, [s1.heap.objs.size + 1, s1.heap.objs.size], _, _, H1, rfl, I2, turn_enumS (s1.heap.objs.size + 1) s1.heap.objs.size x t, ⟨⟨.none, he⟩, hit, Nat.succ_ne_self _⟩, fun b hb => ?_, q⟩
    have e' : b = s1.heap.objs.size + 1 ∨ b = s1.heap.objs.size := by simpa using hb
    have hle : s1.heap.objs.size ≤ b := by
      rcases e' with z | z
      · rw [z]; exact Nat.le_add_right _ _
      · rw [z]; exact Nat.le_refl _
    exact I1.fpOk hle (I1.hok.fresh hle)
theorem walk_enS {x : Str} : Walk (ItES x) x.cps.size (fun _ => True) (fun i H v H' => ∃ T c, v = .ref T ∧ H T = none ∧ H' = upd H T (.tup [.int (i : Nat), .str ⟨#[c]⟩]) ∧ x.cps[i]? = some c) :=
  ⟨fun i H hi _ => hi, fun H _ => rfl, fun i H x H' hi _ y => y⟩

/-! ### loops over the signs of a text -/
section
variable {K : PySem.W.Frag} {σ : L2.St} {H H' : Hp} {ta tl te : TE} {D : Ends} {tu tz : TS}
theorem cps_get {w : List Nat} {i : Nat} : (S w).cps[i]? = w[i]? := by simp
theorem cps_size (w : List Nat) : (S w).cps.size = w.length := by simp
theorem s_forS {w : List Nat} {j : Nat} (h : Ev tl σ H (.str (S w))) (Pv : Nat → L2.St → Hp → Prop) (h0 : ∀ H1, Ex H H1 → Pv 0 σ H1)
    (hs : ∀ i c σ' H', w[i]? = some c → Pv i σ' H' → tu { D with nx := Pv (i + 1), ct := Pv (i + 1), bk := D.nx } (σ'.set j (some (.str (S [c])))) H') (hd : ∀ σ' H', Pv w.length σ' H' → D.nx σ' H') : tFor (iStr tl) (gName j) tu D σ H :=
  h H (Ex.refl H) _ fun H1 e => ⟨S w, rfl, for_it (walk_str (z := S w)) Pv (h0 H1 e) (fun _ _ _ _ _ => trivial) (fun i x σ' H2 H3 hi p y => by
    obtain ⟨rfl, c, hc, rfl⟩ := y
    exact hs i c σ' _ (by rw [cps_get] at hc; exact hc) p) (fun σ' H2 p => hd σ' H2 (by rw [cps_size] at p; exact p))⟩
theorem q_forS {w : List Nat} {j : Nat} (h : Ev tl σ H (.str (S w))) (Pv : Nat → L2.St → Hp → Prop) (h0 : ∀ H1, Ex H H1 → Pv 0 σ H1)
    (hs : ∀ i c σ' H', w[i]? = some c → Pv i σ' H' → tu { D with nx := Pv (i + 1), ct := Pv (i + 1), bk := tz D } (σ'.set j (some (.str (S [c])))) H') (hd : ∀ σ' H', Pv w.length σ' H' → tz D σ' H') : tSeq (tFor (iStr tl) (gName j) tu) tz D σ H :=
  s_forS (D := { D with nx := tz D }) h Pv h0 hs hd
/-- for i, c in enumerate(text) -/
theorem s_forES {w : List Nat} {i1 i2 : Nat} {ta : TA} (h : EvA ta σ H [.str (S w)]) (Pv : Nat → L2.St → Hp → Prop) (h0 : ∀ H1, Ex H H1 → Pv 0 σ H1)
    (hs : ∀ i c σ' H', w[i]? = some c → Pv i σ' H' → ∀ H2, Ex H' H2 → tu { D with nx := Pv (i + 1), ct := Pv (i + 1), bk := D.nx } ((σ'.set i1 (some (.int (i : Int)))).set i2 (some (.str (S [c])))) H2) (hd : ∀ σ' H', Pv w.length σ' H' → D.nx σ' H') :
    tFor (iEnS ta) (gTup K 2 (gCons (gName i1) (gCons (gName i2) gNil))) tu D σ H :=
  h H (Ex.refl H) _ fun H1 e => ⟨S w, rfl, for_it (walk_enS (x := S w)) Pv (h0 H1 e) (fun _ _ _ _ _ => trivial) (fun i x σ' H2 H3 hi p y => by
    obtain ⟨T, c, rfl, hT, rfl, hc⟩ := y
    exact ⟨T, _, rfl, Or.inl (Or.inl upd_same), rfl, _, _, rfl, _, _, rfl, rfl, hs i c σ' _ (by rw [cps_get] at hc; exact hc) p _ (Ex.new hT)⟩) (fun σ' H2 p => hd σ' H2 (by rw [cps_size] at p; exact p))⟩
theorem q_forES {w : List Nat} {i1 i2 : Nat} {ta : TA} (h : EvA ta σ H [.str (S w)]) (Pv : Nat → L2.St → Hp → Prop) (h0 : ∀ H1, Ex H H1 → Pv 0 σ H1)
    (hs : ∀ i c σ' H', w[i]? = some c → Pv i σ' H' → ∀ H2, Ex H' H2 → tu { D with nx := Pv (i + 1), ct := Pv (i + 1), bk := tz D } ((σ'.set i1 (some (.int (i : Int)))).set i2 (some (.str (S [c])))) H2) (hd : ∀ σ' H', Pv w.length σ' H' → tz D σ' H') :
    tSeq (tFor (iEnS ta) (gTup K 2 (gCons (gName i1) (gCons (gName i2) gNil))) tu) tz D σ H := s_forES (D := { D with nx := tz D }) h Pv h0 hs hd
/-- for i in range(a, b, c), told by its turns -/
theorem s_forR3 {ta : TA} {j : Nat} {lo n c : Int} {m : Nat} (h : EvA ta σ H [.int lo, .int n, .int c]) (hn : RgC lo n c m) (Pv : Nat → L2.St → Hp → Prop) (h0 : ∀ H1, Ex H H1 → Pv 0 σ H1)
    (hs : ∀ (i : Nat) σ' H', i < m → Pv i σ' H' → tu { D with nx := Pv (i + 1), ct := Pv (i + 1), bk := D.nx } (σ'.set j (some (.int (lo + (i : Nat) * c)))) H') (hd : ∀ σ' H', Pv m σ' H' → D.nx σ' H') : tFor (iRng3 ta) (gName j) tu D σ H :=
  h H (Ex.refl H) _ fun H1 e => ⟨lo, n, c, m, rfl, hn, for_rangeC (lo := lo) (c := c) (n := m) Pv (h0 H1 e) hs hd⟩
theorem q_forR3 {ta : TA} {j : Nat} {lo n c : Int} {m : Nat} (h : EvA ta σ H [.int lo, .int n, .int c]) (hn : RgC lo n c m) (Pv : Nat → L2.St → Hp → Prop) (h0 : ∀ H1, Ex H H1 → Pv 0 σ H1)
    (hs : ∀ (i : Nat) σ' H', i < m → Pv i σ' H' → tu { D with nx := Pv (i + 1), ct := Pv (i + 1), bk := tz D } (σ'.set j (some (.int (lo + (i : Nat) * c)))) H') (hd : ∀ σ' H', Pv m σ' H' → tz D σ' H') : tSeq (tFor (iRng3 ta) (gName j) tu) tz D σ H :=
  s_forR3 (D := { D with nx := tz D }) h hn Pv h0 hs hd
/-- a built-in's sum, of a list of ints -/
theorem ev_sum {p : Addr} {ns : List Int} (h : Ev te σ H (.ref p)) (hl : SqL K H p (iV ns)) : Ev (tCB (rSum K) (tCons te tNil)) σ H (.int ns.sum) := fun H1 e Q q =>
  h H1 e _ fun H2 e2 => ⟨p, ns, rfl, ex_l (e.trans e2) hl, q H2 e2⟩
theorem ev_sumN {ns : List Int} (h : EvL te σ H (iV ns)) : Ev (tCB (rSum K) (tCons te tNil)) σ H (.int ns.sum) := fun H1 e Q q =>
  h H1 e _ fun p H2 _ e2 h2 => ⟨p, ns, rfl, sq_of h2, q H2 e2⟩
theorem ev_allN {bs : List Bool} (h : EvL te σ H (bs.map V.bl)) : Ev (tCB (rAll K) (tCons te tNil)) σ H (.bl (bs.all id)) := fun H1 e Q q =>
  h H1 e _ fun p H2 _ e2 h2 => ⟨p, bs, rfl, sq_of h2, q H2 e2⟩
abbrev rMin2 : List V → Hp → VK → Prop := fun xs H Q => ∃ i j, xs = [.int i, .int j] ∧ Q (.int (if j < i then j else i)) H
theorem ev_min2 {i j : Int} (ha : Ev ta σ H (.int i)) (hb : Ev te σ H (.int j)) : Ev (tCB rMin2 (tCons ta (tCons te tNil))) σ H (.int (if j < i then j else i)) := fun H1 e Q q =>
  ha H1 e _ fun H2 e2 => hb H2 (e.trans e2) _ fun H3 e3 => ⟨i, j, rfl, q H3 (e2.trans e3)⟩
theorem ev_isi {x : V} {t : String} {c : String} {b : Bool} (h : Ev te σ H x) (hx : ∀ H1, Ex H H1 → TyX K H1 x (.type t)) (hb : kitB t c = some b) : Ev (tCB (rIsi K) (tCons te (tCons (tC (.ty c)) tNil))) σ H (.bl b) := fun H1 e Q q =>
  h H1 e _ fun H2 e2 => ⟨x, .ty c, .type t, .type c, b, rfl, .ty c, hx H2 (e.trans e2), kit_ty hb, q H2 e2⟩
theorem ty_int {i : Int} : TyX K H (.int i) (.type "int") := .base (.int i)
theorem ty_str {z : Str} : TyX K H (.str z) (.type "str") := .base (.str z)
theorem ty_bl {z : Bool} : TyX K H (.bl z) (.type "bool") := .base (.bl z)
theorem ty_lst {p : Addr} {xs : List V} (h : H p = some (.lst xs)) : TyX K H (.ref p) (.type "list") := .base (.lst h)
/-- a method of a text with one argument -/
theorem ev_bmT {m : V → List V → Hp → VK → Prop} {to : TE} {ta : TA} {z : Str} {vs : List V} {v : V} (h : Ev to σ H (.str z)) (ha : EvA ta σ H vs) (hm : ∀ H1, Ex H H1 → ∀ Q : VK, Q v H1 → m (.str z) vs H1 Q) : Ev (tBM K "str" m to ta) σ H v := fun H1 e Q q =>
  h H1 e _ fun H2 e2 => ⟨rfl, ha H2 (e.trans e2) _ fun H3 e3 => hm H3 ((e.trans e2).trans e3) Q (q H3 (e2.trans e3))⟩
theorem ev_ends {a b : List Nat} {to : TE} {ta : TA} (h : Ev to σ H (.str (S a))) (ha : EvA ta σ H [.str (S b)]) :
    Ev (tBM K "str" (fun x xs H Q => ∃ a b, x = .str a ∧ xs = [.str b] ∧ Q (.bl (Txt.endswith a b)) H) to ta) σ H (.bl (decide (b <:+ a))) :=
  ev_bmT h ha fun H1 _ Q q => ⟨S a, S b, rfl, rfl, by rw [ends_is]; exact q⟩
theorem ev_strip {a b : List Nat} {to : TE} {ta : TA} (h : Ev to σ H (.str (S a))) (ha : EvA ta σ H [.str (S b)]) (hz : a.length ≤ 100000) :
    Ev (tBM K "str" (fun x xs H Q => ∃ a b, x = .str a ∧ xs = [.str b] ∧ a.length ≤ sizeLine ∧ Q (.str (Txt.stripChars a b)) H) to ta) σ H (.str (Txt.stripChars (S a) (S b))) :=
  ev_bmT h ha fun H1 _ Q q => ⟨S a, S b, rfl, rfl, sl_ok (by rw [S_len]; exact hz), q⟩
abbrev rInT : R2 := fun x y H Q => ∃ i j : Str, x = .str i ∧ y = .str j ∧ Q (.bl (!(Builtin.Str.occurrences j i 0 j.length 1).isEmpty)) H
abbrev rNinT : R2 := fun x y H Q => ∃ i j : Str, x = .str i ∧ y = .str j ∧ Q (.bl (!(!(Builtin.Str.occurrences j i 0 j.length 1).isEmpty))) H
theorem rv_inS {a b : List Nat} : RV rInT (.str (S b)) (.str (S a)) H (.bl (decide (b <:+: a))) := fun H1 e Q q => ⟨S b, S a, rfl, rfl, by rw [in_is]; exact q H1 (Ex.refl H1)⟩
theorem rv_ninS {a b : List Nat} : RV rNinT (.str (S b)) (.str (S a)) H (.bl (!decide (b <:+: a))) := fun H1 e Q q => ⟨S b, S a, rfl, rfl, by rw [in_is]; exact q H1 (Ex.refl H1)⟩
end
end Fw

set_option Elab.async false
set_option linter.all false
set_option maxRecDepth 100000
set_option maxHeartbeats 4000000
namespace Fw
open PySem PySem.Spec PyProof.Rows L2 Evl
section
variable {K : PySem.W.Frag} {σ : L2.St} {H : Hp} {ta tb te tl : TE}
/-! ### readings with the written part named (for use within a comprehension) -/
section
variable {X : Cx} {e : Expr} {to ta tb : TE} {t : TA} {T : String} {r : V → List V → Hp → VK → Prop}
theorem pk_bm (K : PySem.W.Frag) (h : PE X e (tBM X.K T r to t)) (hK : X.K = K := by rfl) : PE X e (tBM K T r to t) := by
  subst hK
  exact h
theorem pk_ix (K : PySem.W.Frag) (h : PE X e (tOp (rIxL X.K) ta tb)) (hK : X.K = K := by rfl) : PE X e (tOp (rIxL K) ta tb) := by
  subst hK
  exact h
theorem pk_len (K : PySem.W.Frag) (h : PE X e (tCB (rLenS X.K) t)) (hK : X.K = K := by rfl) : PE X e (tCB (rLenS K) t) := by
  subst hK
  exact h
end
/-! ### lists of ints that are equal -/
theorem dpAll_ints (ns : List Int) : DpAll K H (iV ns) (ns.map PyData.int) := by
  induction ns with
  | nil => exact .nil
  | cons n ns ih => exact .cons (.int n) ih
theorem shaped_ints (ns : List Int) : SeqAt.shaped (.list (ns.map PyData.int)) = true := by
  have h1 : ∀ l : List Int, PyData.canLayAll0 (l.map PyData.int) = true := fun l => by
    induction l with
    | nil => rfl
    | cons n l ih => simp [PyData.canLayAll0, PyData.canLay0, ih]
  have h2 : ∀ l : List Int, PyData.depthAll (l.map PyData.int) ≤ 1 := fun l => by
    induction l with
    | nil => simp [PyData.depthAll]
    | cons n l ih => simp [PyData.depthAll, PyData.depth]; exact ih
  unfold SeqAt.shaped
  rw [Bool.and_eq_true, decide_eq_true_eq]
  refine ⟨by simp only [PyData.canLay0]; exact h1 ns, ?_⟩
  have := h2 ns
  simp only [PyData.depth]
  omega
theorem eqv_ints (ns : List Int) : PyData.eqv (.list (ns.map PyData.int)) (.list (ns.map PyData.int)) = true :=
  SeqAt.eqv_refl _ (SeqAt.canLay_of_shaped (shaped_ints ns))
theorem rv_eqL {p q : Addr} {ns : List Int} (h1 : SqL K H p (iV ns)) (h2 : SqL K H q (iV ns)) : RV (rEqD K) (.ref p) (.ref q) H (.bl true) := fun H1 e Q k =>
  ⟨.list (ns.map .int), .list (ns.map .int), .lst (ex_l e h1) (dpAll_ints ns), .lst (ex_l e h2) (dpAll_ints ns), shaped_ints ns, shaped_ints ns, by rw [eqv_ints]; exact k H1 (Ex.refl H1)⟩
theorem rv_neL {p q : Addr} {ns : List Int} (h1 : SqL K H p (iV ns)) (h2 : SqL K H q (iV ns)) : RV (rNeD K) (.ref p) (.ref q) H (.bl false) := fun H1 e Q k =>
  ⟨.list (ns.map .int), .list (ns.map .int), .lst (ex_l e h1) (dpAll_ints ns), .lst (ex_l e h2) (dpAll_ints ns), shaped_ints ns, shaped_ints ns, by rw [eqv_ints]; exact k H1 (Ex.refl H1)⟩
theorem ev_eqLL {ns : List Int} (ha : EvL ta σ H (iV ns)) (hb : EvL tb σ H (iV ns)) : Ev (tOp (rEqD K) ta tb) σ H (.bl true) := ev_opLL ha hb fun _ _ _ h1 h2 _ => rv_eqL (sq_of h1) (sq_of h2)
theorem ev_neLL {ns : List Int} (ha : EvL ta σ H (iV ns)) (hb : EvL tb σ H (iV ns)) : Ev (tOp (rNeD K) ta tb) σ H (.bl false) := ev_opLL ha hb fun _ _ _ h1 h2 _ => rv_neL (sq_of h1) (sq_of h2)

/-! ### comprehensions over range(a, b) -/
theorem et_yes : EvT tYes σ H true := fun H1 _ _ q => q H1 (Ex.refl H1)
/-- [e for x in l], l ints, each taken to g -/
theorem given_map {α : Type} (xs : List α) (n : Nat) (hn : n = xs.length) (f : α → V) (v : Nat → V) (hv : ∀ i x, xs[i]? = some x → v i = f x) : given n (fun _ => true) v = xs.map f := by
  subst hn
  unfold given
  rw [List.filter_eq_self.mpr (fun _ _ => rfl)]
  refine List.ext_getElem? fun i => ?_
  rw [List.getElem?_map, List.getElem?_map]
  by_cases h : i < xs.length
  · rw [List.getElem?_range h, List.getElem?_eq_getElem h]
    show some (v i) = some (f xs[i])
    rw [hv i _ (List.getElem?_eq_getElem h)]
  · rw [List.getElem?_eq_none (by simpa using h), List.getElem?_eq_none (by simpa using h)]; rfl

theorem el_lcR2 {ta : TA} {t : TT} {j : Nat} {vs : List Nat} {lo n : Int} (f : Nat → Bool) (v : Nat → V) (h : EvA ta σ H [.int lo, .int n]) (hn : 0 ≤ lo ∧ lo ≤ 40000 ∧ -40000 ≤ n ∧ n ≤ 40000) (hw : ∀ x, wipe ((wipe σ vs).set j (some x)) vs = wipe σ vs)
    (ht : ∀ (i : Nat) H1, Ex H H1 → lo + (i : Int) < n → EvT t ((wipe σ vs).set j (some (.int (lo + (i : Int))))) H1 (f i)) (he : ∀ (i : Nat) H1, Ex H H1 → lo + (i : Int) < n → f i = true → Ev te ((wipe σ vs).set j (some (.int (lo + (i : Int))))) H1 (v i)) :
    EvL (tLc (iRng2 ta) (gName j) t te vs) σ H (given (n - lo).toNat f v) := fun H0 e Q q => h H0 e _ fun H1 e1 => ⟨lo, n, rfl, ⟨by omega, by omega, by omega, by omega⟩, fun Dl hD =>
  lc_range (lo := lo) (n := (n - lo).toNat) (Cw H1 f v Dl) ⟨hD, Ex.new hD, upd_same⟩ (fun i H' hi p =>
    ⟨hw _, cw_turn p (by omega) (ht i H1 (e.trans e1) (by omega)) (fun hf => he i H1 (e.trans e1) (by omega) hf)⟩) (fun H' p => q Dl H' (fresh_back e1 p.1) (e1.trans p.2.1) p.2.2)⟩
/-- [k for k in range(1, n + 1) if P k] -/
theorem given_filter (n : Nat) (P : Nat → Bool) : given n (fun i => P (i + 1)) (fun i => V.int ((i + 1 : Nat) : Int)) = iV (nI (((List.range n).map (· + 1)).filter P)) := by
  unfold given
  rw [List.filter_map, iV, nI, List.map_map, List.map_map]
  rfl
theorem el_count {ta : TA} {t : TT} {te : TE} {j : Nat} {vs : List Nat} {n : Nat} (P : Nat → Bool) (h : EvA ta σ H [.int 1, .int ((n + 1 : Nat) : Int)]) (hn : n ≤ 30000) (hw : ∀ x, wipe ((wipe σ vs).set j (some x)) vs = wipe σ vs)
    (ht : ∀ (k : Nat) H1, Ex H H1 → 0 < k → k ≤ n → EvT t ((wipe σ vs).set j (some (.int (k : Int)))) H1 (P k)) (he : ∀ (k : Nat) H1, Ex H H1 → Ev te ((wipe σ vs).set j (some (.int (k : Int)))) H1 (.int (k : Int))) :
    EvL (tLc (iRng2 ta) (gName j) t te vs) σ H (iV (nI (((List.range n).map (· + 1)).filter P))) := by
  have e0 : ∀ i : Nat, (1 : Int) + (i : Int) = ((i + 1 : Nat) : Int) := fun i => by omega
  have := el_lcR2 (σ := σ) (H := H) (te := te) (ta := ta) (t := t) (j := j) (vs := vs) (lo := 1) (n := ((n + 1 : Nat) : Int)) (fun i => P (i + 1)) (fun i => V.int ((i + 1 : Nat) : Int)) h ⟨by omega, by omega, by omega, by omega⟩ hw
    (fun i H1 e hi => by rw [e0]; exact ht (i + 1) H1 e (by omega) (by omega)) (fun i H1 e hi _ => by rw [e0]; exact he (i + 1) H1 e)
  have e1 : (((n + 1 : Nat) : Int) - 1).toNat = n := by omega
  rw [e1, given_filter] at this
  exact this
/-- range(0, n, c) with 0 < c -/
theorem rgC_up {n c : Int} (h0 : 0 ≤ n) (h1 : n ≤ 100000) (c0 : 0 < c) (c1 : c ≤ 100000) : ∃ m : Nat, RgC 0 n c m := by
  have h2 : 0 ≤ Builtin.Range.rangeSize 0 n c ∧ Builtin.Range.rangeSize 0 n c ≤ 100001 := by
    unfold Builtin.Range.rangeSize
    rw [if_pos c0]
    split
    · have a := Int.ediv_nonneg (show 0 ≤ n - 0 - 1 by omega) (show 0 ≤ c by omega)
      have b := Int.ediv_le_self c (show 0 ≤ n - 0 - 1 by omega)
      constructor <;> omega
    · omega
  refine ⟨(Builtin.Range.rangeSize 0 n c).toNat, by omega, by omega, ?_, by omega⟩
  unfold Builtin.Range.small
  simp only [Builtin.Range.rangeFitsLong, Bool.and_eq_true, Bool.or_eq_true, decide_eq_true_eq, beq_iff_eq, if_pos c0]
  omega
end
end Fw

set_option Elab.async false
set_option linter.all false
set_option maxRecDepth 100000
set_option maxHeartbeats 4000000
namespace Fw
open PySem PySem.Spec PyProof.Rows L2 Evl
/-! ### text[::-1] -/
def tRevS (te : TE) : TE := fun σ H Q => te σ H fun x H1 => ∃ z : Str, x = .str z ∧ z.length ≤ sizeLine ∧ Q (.str (S z.cps.toList.reverse)) H1
theorem revS_made (z : Str) (t tk : Tok) : sliceMade z t none none (some (-1, tk)) = Made.str (S z.cps.toList.reverse) := by
  unfold sliceMade slicePicked
  have e : Builtin.Str.strSliceIndices none none (((some ((-1 : Int), tk)).map (·.1)).getD 1) z.length = (List.range z.length).reverse := by
    show sliceRange ((z.length : Int) - 1) (-1) (-1) = _
    rw [PySem.W.krv_sliceRange, PySem.W.krv_range]
  show (if ((-1 : Int) == 1 && _) = true then _ else _) = _
  rw [if_neg (by simp)]
  congr 2
  show (List.filterMap (z.cps[·]?) (Builtin.Str.strSliceIndices none none (((some ((-1 : Int), tk)).map (·.1)).getD 1) z.length)).toArray = _
  rw [e, List.filterMap_reverse]
  congr 2
  exact PySem.W.krv_all z.cps
section
variable {X : Cx}
theorem pe_revS {e : Expr} {te : TE} {k : Nat} {p1 p2 p3 pos : Pos} (he : PE X e te) : PE X (.Subscript e (.Slice none none (some (.UnaryOp .USub (.Constant (.int 1) k p1) p2)) p3) pos) (tRevS te) := by
  refine ⟨fun pins s σ H Q I h => ?_⟩
  refine Subscript_ (thn (he.run pins s σ H _ I h) fun v s1 ⟨x, H1, I1, r1, z, ez, hz, q⟩ => ?_)
  subst ez
  obtain ⟨t, rfl⟩ := r1
  have hst : PO X (some (.UnaryOp .USub (.Constant (.int 1) k p1) p2)) (tPart (tUn (rU fun i => .int (-i)) (tC (.int 1)))) := po_some (pe_un un_neg pe_int)
  refine wpAny_Slice (thn (po_none.run pins s1 σ H1 (fun o H2 => o = none ∧ H2 = H1) I1 ⟨rfl, rfl⟩) fun vl s2 ⟨l, H2, I2, pl, el, e2⟩ => ?_)
  subst el e2
  refine thn (po_none.run pins s2 σ H2 (fun o H3 => o = none ∧ H3 = H2) I2 ⟨rfl, rfl⟩) fun vu s3 ⟨u, H3, I3, pu, eu, e3⟩ => ?_
  subst eu e3
  refine thn (hst.run pins s3 σ H3 (fun o H4 => o = some (-1) ∧ H4 = H3) I3 ⟨1, rfl, -1, rfl, rfl, rfl⟩) fun vs s4 ⟨o, H4, I4, ps, eo, e4⟩ => ?_
  subst eo e4
  have I5 : Inv X pins σ H4 { s4 with heap := s4.heap.push { cls := .type "slice", data := .fields #[vl, vu, vs] } } := I4.kept (t' := s4.toks) fun b ob q => Heap.get?_push_of_some _ q
  cases pl
  cases pu
  cases ps with
  | int _ tk =>
    refine tail_any (ops := [.str z t, .ref s4.heap.objs.size]) (typeIs_str _ _ _) F.slot_str_getitem.lookup ?_ (by with_unfolding_all rfl)
    refine wpAny_getItem_str_slice (l := none) (u := none) (st := some (-1, tk)) ⟨_, Heap.get?_push_size _ rfl, rfl, rfl⟩ rfl ?_
    rw [revS_made]
    exact ⟨by rw [S_len, List.length_reverse]; simpa [Str.length] using hz, .str _, H4, I5.tok _, ⟨_, rfl⟩, q⟩
end
/-! ### objects -/
structure Ma (P : Program) (w : World) (K : PySem.W.Frag) (mg : Str → Option Value) (base : Heap) (k : Nat) (x : Str) (C : Addr) (sp : Sp) : Prop where
  ex : ∃ (f : Addr) (fd : FuncData) (ps : List Str), Mk K C f ∧ FnOk P w K mg base CX0 k f fd ps sp ∧ mg x = some (.ref C) ∧ Binds K fd ps []
structure Me (P : Program) (w : World) (K : PySem.W.Frag) (mg : Str → Option Value) (base : Heap) (k : Nat) (C : Addr) (m : Str) (sp : Sp) : Prop where
  ex : ∃ (f : Addr) (fd : FuncData) (ps : List Str), Cls K C ∧ Meth K C m f ∧ FnOk P w K mg base CX0 k f fd ps sp ∧ Binds K fd ps []
section
variable {X : Cx} {k j : Nat} {C : Addr} {x m : Str} {sp : Sp} {p pos apos : Pos} {e o : Expr} {es : List Expr} {ta : TE} {t : TA}
theorem pe_ma (c : Ma X.prog X.w X.K X.mg X.base k x C sp) (hr : Room j X.A) (ha : PA X (e :: es) t) (hk : k + 1 ≤ j := by decide) (hg : Gl X x := by rfl)
    (hdb : (x == ("__debug__" : Str)) = false := by decide) (he : starEach (e :: es) X.env = (false, eval e X.env) :: starEach es X.env := by rfl) (hpl : (backTo pos (starEach es X.env)).any (·.1) = false := by rfl) :
    PE X (.Call (.Name x p) (e :: es) [] pos) (tMake C sp [] E0 t) := by
  obtain ⟨f, fd, ps, M, F, hm, b⟩ := c.ex
  exact pe_make M F (hr.mono hk) hg hm b .nil pass0 ha hdb he hpl
theorem pe_me {pl : Sem Bool} (c : Me X.prog X.w X.K X.mg X.base k C m sp) (hr : Room j X.A) (ho : PE X o ta) (ha : PA X (e :: es) t) (hk : k ≤ j := by decide)
    (hst : starEach (e :: es) X.env = (false, eval e X.env) :: starEach es X.env := by rfl) (hpl : (backTo pos (starEach es X.env)).any (·.1) = false := by rfl)
    (ht : eval (.Call (.Attribute o m apos) (e :: es) [] pos) X.env = (do
      let ov ← eval o X.env
      standAt apos.atName
      let (f, first) ← holding [ov] (getMethod ov m pl)
      callWith pos f first (backTo pos (starEach (e :: es) X.env)) (backToKw pos (keywordEach [] X.env))) := by rfl) :
    PE X (.Call (.Attribute o m apos) (e :: es) [] pos) (tMeth C m sp [] E0 ta t) := by
  obtain ⟨f, fd, ps, hc, hm, F, b⟩ := c.ex
  exact pe_meth (pl := pl) ho hc hm F (hr.mono hk) b .nil pass0 ha hst hpl ht
/-- a class of the module as a value -/
theorem pe_cls {x : Str} {pos : Pos} (h : X.mg x = some (.ref C)) (hg : Gl X x := by rfl) (hd : (x == ("__debug__" : Str)) = false := by decide) : PE X (.Name x pos) (tC (.ref C)) :=
  pe_glob hg h rfl hd
theorem pk_fld (K : PySem.W.Frag) {f : Str} (h : PE X e (tFld X.K ta f)) (hK : X.K = K := by rfl) : PE X e (tFld K ta f) := by
  subst hK
  exact h
end
/-- what isinstance asks of the class of an instance -/
structure InsF (K : PySem.W.Frag) (C : Addr) : Prop where
  cl : Cls K C
  ha : PySem.W.findIn K (.ref C) "__class__" = some (some (.builtin "object.__class__"))
  hn : PySem.W.specialIn K (.builtin "object.__class__") "__get__" = some (some (.builtin "getset_descriptor.__get__"))
  htk : PySem.W.takesIn K (.builtin "object.__class__") = some true
  hm : PySem.W.mroIn K C (.type "object") = some true
section
variable {K : PySem.W.Frag} {σ : L2.St} {H : Hp} {ta tb te tl : TE} {p C dx : Addr} {fs : List (Str × V)} {m f : Str} {v z : V} {E : XK} {t : TA} {vs : List V}
theorem ev_fld (h : Ev te σ H (.ref p)) (ho : H p = some (.ins C dx fs)) (c : Cls K C) (n : NoAttr K C f) (l : fs.lookup f = some v) : Ev (tFld K te f) σ H v := fun H1 e Q q =>
  h H1 e _ fun H2 e2 => ⟨p, C, dx, fs, v, rfl, e2 _ _ (e _ _ ho), c, n, l, q H2 e2⟩
theorem ev_me {R : List V → Hp → V → Prop} (h : Ev ta σ H (.ref p)) (ho : H p = some (.ins C dx fs)) (l : fs.lookup m = none) (ha : EvA t σ H vs) (hr : ∀ H1, Ex H H1 → R (.ref p :: vs) H1 z) : Ev (tMeth C m (PV R) [] E ta t) σ H z := fun H1 e Q q =>
  h H1 e _ fun H2 e2 => ⟨p, dx, fs, rfl, e2 _ _ (e _ _ ho), l, ha H2 (e.trans e2) _ fun H3 e3 => ⟨z, by rw [List.append_nil]; exact hr H3 ((e.trans e2).trans e3), fun H4 e4 => q H4 ((e2.trans e3).trans e4)⟩⟩
theorem ev_isiC {D : Addr} {b : Bool} (h : Ev te σ H (.ref p)) (ho : H p = some (.ins C dx fs)) (F : InsF K C) (hb : PySem.W.kitOne K (.ref C) (.ref D) = some b) : Ev (tCB (rIsi K) (tCons te (tCons (tC (.ref D)) tNil))) σ H (.bl b) := fun H1 e Q q =>
  h H1 e _ fun H2 e2 => ⟨.ref p, .ref D, .ref C, .ref D, b, rfl, .own D, .base (.ins (e2 _ _ (e _ _ ho)) F.cl F.ha F.hn F.htk F.hm), hb, q H2 e2⟩
theorem rv_notB {a b : Bool} : RV rNotB (.bl a) (.bl b) H (.bl (!decide (a = b))) := fun H1 e Q q => ⟨a, b, rfl, rfl, q H1 (Ex.refl H1)⟩
theorem rv_isB {a b : Bool} : RV rIsB (.bl a) (.bl b) H (.bl (decide (a = b))) := fun H1 e Q q => ⟨a, b, rfl, rfl, q H1 (Ex.refl H1)⟩
theorem bl_eq {a b : Bool} : decide (V.bl a = V.bl b) = decide (a = b) := by
  cases a <;> cases b <;> rfl
theorem rv_neB {a b : Bool} : RV rNe (.bl a) (.bl b) H (.bl (!decide (a = b))) := fun H1 e Q q => ⟨rfl, by rw [bl_eq]; exact q H1 (Ex.refl H1)⟩
theorem rv_eqB {a b : Bool} : RV rEq (.bl a) (.bl b) H (.bl (decide (a = b))) := fun H1 e Q q => ⟨rfl, by rw [bl_eq]; exact q H1 (Ex.refl H1)⟩
theorem ev_revS {w : List Nat} (h : Ev te σ H (.str (S w))) (hz : w.length ≤ 100000) : Ev (tRevS te) σ H (.str (S w.reverse)) := fun H1 e Q q =>
  h H1 e _ fun H2 e2 => ⟨S w, rfl, sl_ok (by rw [S_len]; exact hz), q H2 e2⟩
theorem ev_chainI {a n b : Int} (ha : Ev ta σ H (.int a)) (hb : Ev tb σ H (.int n)) (hc : Ev te σ H (.int b)) :
    Ev (tChain (rI0 fun i j => .bl (decide (i ≤ j))) (rI0 fun i j => .bl (decide (i ≤ j))) ta tb te) σ H (.bl (decide (a ≤ n) && decide (n ≤ b))) := fun H1 e Q q =>
  ha H1 e _ fun H2 e2 => hb H2 (e.trans e2) _ fun H3 e3 => ⟨a, n, rfl, rfl, decide (a ≤ n), rfl, by
    cases hd : decide (a ≤ n) with
    | true => exact hc H3 ((e.trans e2).trans e3) _ fun H4 e4 => ⟨n, b, rfl, rfl, by
        have := q H4 ((e2.trans e3).trans e4)
        rw [hd] at this
        exact this⟩
    | false =>
      have := q H3 (e2.trans e3)
      rw [hd] at this
      exact this⟩
theorem rv_mulL {i j : Int} (h : -(2 ^ 64) < i ∧ i < 2 ^ 64) : RV (rI CMul fun i j => .int (i * j)) (.int i) (.int j) H (.int (i * j)) := rv_I (Or.inl h)
theorem rv_mulR {i j : Int} (h : -(2 ^ 64) < j ∧ j < 2 ^ 64) : RV (rI CMul fun i j => .int (i * j)) (.int i) (.int j) H (.int (i * j)) := rv_I (Or.inr h)
/-- [e for c in text] -/
theorem el_lcT {w : List Nat} {j : Nat} {vs : List Nat} (g : Nat → V) (h : Ev tl σ H (.str (S w))) (hz : w.length ≤ 40000) (hw : ∀ x, wipe ((wipe σ vs).set j (some x)) vs = wipe σ vs)
    (he : ∀ c, c ∈ w → ∀ H1, Ex H H1 → Ev te ((wipe σ vs).set j (some (.str (S [c])))) H1 (g c)) : EvL (tLc (iStr tl) (gName j) tYes te vs) σ H (w.map g) := by
  have key : EvL (tLc (iStr tl) (gName j) tYes te vs) σ H (given w.length (fun _ => true) (fun i => (w[i]?.map g).getD .non)) := fun H0 e Q q => h H0 e _ fun H1 e1 => ⟨S w, rfl, fun Dl hD =>
    lc_it (walk_str (z := S w)) (Cw H1 (fun _ => true) (fun i => (w[i]?.map g).getD .non) Dl) ⟨hD, Ex.new hD, upd_same⟩ (fun _ _ _ _ => trivial) (fun i x H2 H3 hi p y => by
      obtain ⟨rfl, c, hc, rfl⟩ := y
      rw [cps_get] at hc
      refine ⟨hw _, cw_turn p (by rw [cps_size] at hi; omega) et_yes fun _ => ?_⟩
      show Ev te _ H1 ((w[i]?.map g).getD .non)
      rw [hc]
      exact he c (List.mem_of_getElem? hc) H1 (e.trans e1)) (fun H' p => q Dl H' (fresh_back e1 p.1) (e1.trans p.2.1) (by
        have h3 := p.2.2
        rw [cps_size] at h3
        exact h3))⟩
  rw [given_map w w.length rfl g _ (fun i x hx => by rw [hx]; rfl)] at key
  exact key
end
end Fw

set_option Elab.async false
set_option linter.all false
set_option maxRecDepth 100000
set_option maxHeartbeats 4000000
namespace Fw
open PySem PySem.Spec PyProof.Rows L2 Evl
/-! ### more of readings -/
section
variable {K : PySem.W.Frag} {σ : L2.St} {H : Hp} {ta tb te tl : TE}
theorem ev_ixU {xs : List V} {i : Int} {v : V} (ha : EvU ta σ H xs) (hb : Ev tb σ H (.int i)) (hv : atI xs i = some v) : Ev (tOp (rIxT K) ta tb) σ H v := fun H1 e Q q =>
  ha H1 e _ fun p H2 _ e2 hp => hb H2 (e.trans e2) _ fun H3 e3 => ⟨p, xs, i, v, rfl, rfl, ex_t e3 (st_of hp), hv, q H3 (e2.trans e3)⟩
theorem ev_ixL0 {xs : List V} {i : Int} {v : V} (ha : EvL ta σ H xs) (hb : Ev tb σ H (.int i)) (hv : atI xs i = some v) : Ev (tOp (rIxL K) ta tb) σ H v := fun H1 e Q q =>
  ha H1 e _ fun p H2 _ e2 hp => hb H2 (e.trans e2) _ fun H3 e3 => ⟨p, xs, i, v, rfl, rfl, ex_l e3 (sq_of hp), hv, q H3 (e2.trans e3)⟩
theorem el_lcV {α : Type} {xs : List α} {j : Nat} {vs : List Nat} {a : α → V} (g : α → V) (h : EvL tl σ H (xs.map a)) (hz : xs.length ≤ 40000) (hw : ∀ x, wipe ((wipe σ vs).set j (some x)) vs = wipe σ vs)
    (he : ∀ n, n ∈ xs → ∀ H1, Ex H H1 → Ev te ((wipe σ vs).set j (some (a n))) H1 (g n)) : EvL (tLc (iList K tl) (gName j) tYes te vs) σ H (xs.map g) := by
  have := el_lcNL (K := K) (xs := xs.map a) (fun _ => true) (fun i => (xs[i]?.map g).getD .non) h (by rw [List.length_map]; exact hz) hw (fun i x H1 e hx => et_yes) (te := te) (fun i x H1 e hx _ => by
    rw [List.getElem?_map] at hx
    cases hn : xs[i]? with
    | none => rw [hn] at hx; cases hx
    | some n =>
      rw [hn] at hx
      cases hx
      exact he n (List.mem_of_getElem? hn) H1 e)
  rw [given_map xs _ (List.length_map ..) g _ (fun i x hx => by rw [hx]; rfl)] at this
  exact this
/-- .. over a list that stands -/
theorem el_lcS {α : Type} {xs : List α} {j : Nat} {vs : List Nat} {a : α → V} {p : Addr} (g : α → V) (h : Ev tl σ H (.ref p)) (hl : SqL K H p (xs.map a)) (hz : xs.length ≤ 40000) (hw : ∀ x, wipe ((wipe σ vs).set j (some x)) vs = wipe σ vs)
    (he : ∀ n, n ∈ xs → ∀ H1, Ex H H1 → Ev te ((wipe σ vs).set j (some (a n))) H1 (g n)) : EvL (tLc (iList K tl) (gName j) tYes te vs) σ H (xs.map g) := by
  have := el_lcL (K := K) (xs := xs.map a) (fun _ => true) (fun i => (xs[i]?.map g).getD .non) h hl (by rw [List.length_map]; exact hz) hw (fun i x H1 e hx => et_yes) (te := te) (fun i x H1 e hx _ => by
    rw [List.getElem?_map] at hx
    cases hn : xs[i]? with
    | none => rw [hn] at hx; cases hx
    | some n =>
      rw [hn] at hx
      cases hx
      exact he n (List.mem_of_getElem? hn) H1 e)
  rw [given_map xs _ (List.length_map ..) g _ (fun i x hx => by rw [hx]; rfl)] at this
  exact this
theorem cutV_to (ns : List Int) (k : Nat) : cutV (iV ns) none (some (k : Int)) = iV (ns.take k) := by
  unfold cutV
  rw [HT.sIx_none, List.length_map, HT.sIx_nat, List.drop_zero, Nat.sub_zero, iV, ← List.map_take]
  rcases Nat.le_total k ns.length with h | h
  · rw [Nat.min_eq_left h]
  · rw [Nat.min_eq_right h, List.take_length, List.take_of_length_le h]
theorem cutV_from (ns : List Int) (k : Nat) : cutV (iV ns) (some (k : Int)) none = iV (ns.drop k) := by
  unfold cutV
  rw [HT.sIx_none, List.length_map, HT.sIx_nat, iV, ← List.map_drop, ← List.map_take]
  rcases Nat.le_total k ns.length with h | h
  · rw [Nat.min_eq_left h, List.take_of_length_le (by rw [List.length_drop]; omega)]
  · rw [Nat.min_eq_right h, List.drop_of_length_le h, List.drop_of_length_le (Nat.le_refl _), List.take_nil]
theorem el_to {ns : List Int} {th : TO} {k : Nat} {p : Addr} (h : Ev te σ H (.ref p)) (h2 : EvO th σ H (some (k : Int))) (hl : SqL K H p (iV ns)) : EvL (tSl (rSlL K) te tNoPart th) σ H (iV (ns.take k)) := by
  rw [← cutV_to]
  exact el_sl h eo_none h2 hl
theorem el_from {ns : List Int} {tl : TO} {k : Nat} {p : Addr} (h : Ev te σ H (.ref p)) (h2 : EvO tl σ H (some (k : Int))) (hl : SqL K H p (iV ns)) : EvL (tSl (rSlL K) te tl tNoPart) σ H (iV (ns.drop k)) := by
  rw [← cutV_from]
  exact el_sl h h2 eo_none hl
abbrev rJoinT (K : PySem.W.Frag) : V → List V → Hp → VK → Prop := fun x xs H Q => ∃ a p, ∃ ys : List Str, x = .str a ∧ xs = [.ref p] ∧ (SqL K H p (ys.map V.str) ∨ SqT K H p (ys.map V.str)) ∧ (ys.map (·.length)).sum + ys.length * a.length ≤ 16777216 ∧ Q (.str (Txt.join a ys)) H
theorem join_one (ls : List Nat) : Txt.join (S []) (ls.map fun c => S [c]) = S ls := by
  refine TL.ext_tl ?_
  rw [TL.join_eq, TL.tl_join, List.map_map]
  show TL.joinL [] (ls.map fun c => [c]) = ls
  induction ls with
  | nil => rfl
  | cons c ls ih =>
    cases ls with
    | nil => rfl
    | cons d ls =>
      show [c] ++ ([] ++ TL.joinL [] ((d :: ls).map fun c => [c])) = c :: d :: ls
      rw [ih]; rfl
theorem ev_join {z : Str} {ls : List Nat} (hz : z = S []) (h : EvL ta σ H (ls.map fun c => V.str (S [c]))) (hn : ls.length ≤ 100000) : Ev (tBM K "str" (rJoinT K) (tC (.str z)) (tCons ta tNil)) σ H (.str (S ls)) := fun H1 e Q q =>
  ⟨rfl, h H1 e _ fun p H2 _ e2 h2 => ⟨z, p, ls.map fun c => S [c], rfl, rfl, Or.inl (sq_of (by rw [List.map_map]; exact h2)), by
    subst hz
    rw [S_len, List.length_nil, Nat.mul_zero, Nat.add_zero, List.map_map]
    have e3 : (ls.map ((fun z : Str => z.length) ∘ fun c => S [c])).sum = ls.length := by
      have : ((fun z : Str => z.length) ∘ fun c => S [c]) = fun _ => 1 := by
        funext c
        exact S_len [c]
      rw [this]
      clear h2 h q
      induction ls with
      | nil => rfl
      | cons c ls ih => rw [List.map_cons, List.sum_cons, ih (by rw [List.length_cons] at hn; omega), List.length_cons]; omega
    rw [e3]; omega, by
    subst hz
    rw [join_one]
    exact q H2 e2⟩⟩
end
section
variable {K : PySem.W.Frag} {σ : L2.St} {H : Hp} {ta tb te tl : TE} {C : Addr} {sp : Sp} {E : XK} {D : Ends} {xs : List V} {v : V}
/-- return C(new list), return C(new list, value) -/
theorem s_retMk1 (h : EvL te σ H xs) (k : ∀ l H1, H l = none → Ex H H1 → H1 l = some (.lst xs) → ∀ x dx, H1 x = none → H1 dx = none → dx ≠ x → sp [.ref x, .ref l] (upd (upd H1 dx (.own x)) x (.ins C dx [])) (fun v H2 => v = .non ∧ D.rt (.ref x) H2) E) :
    tRet (tMake C sp [] E (tCons te tNil)) D σ H := h H (Ex.refl H) _ fun p H1 hp e h1 => k p H1 hp e h1
theorem s_retMk2 (h : EvL te σ H xs) (hb : Ev tb σ H v) (k : ∀ l H1, H l = none → Ex H H1 → H1 l = some (.lst xs) → ∀ x dx, H1 x = none → H1 dx = none → dx ≠ x → sp [.ref x, .ref l, v] (upd (upd H1 dx (.own x)) x (.ins C dx [])) (fun v H2 => v = .non ∧ D.rt (.ref x) H2) E) :
    tRet (tMake C sp [] E (tCons te (tCons tb tNil))) D σ H := h H (Ex.refl H) _ fun p H1 hp e h1 => hb H1 e _ fun H2 e2 => k p H2 hp (e.trans e2) (e2 _ _ h1)
end
end Fw

set_option Elab.async false
set_option linter.all false
set_option maxRecDepth 100000
set_option maxHeartbeats 4000000
namespace Fw
open PySem PySem.Spec PyProof.Rows L2 Evl
/-! ### texts sorted, any number of them -/
section
open SrtO Srt
variable {prog : Program} {w : World} {A : Around} {E : Value → Shared → Prop} {s : Shared}
def svS : Value → Str
  | .str x _ => x
  | _ => ⟨#[]⟩
def ltSv (v u : Value) : Bool := decide ((svS v).cps.toList < (svS u).cps.toList)
theorem swo_sv : Swo ltSv := by
  refine ⟨fun x y h => ?_, fun x y z h1 h2 => ?_⟩
  · exact decide_eq_false (List.lt_asymm (of_decide_eq_true h))
  · have a := of_decide_eq_false h1
    have b := of_decide_eq_false h2
    refine decide_eq_false fun c => ?_
    rw [List.not_lt] at a b
    exact absurd c (List.not_lt.mpr (by first | exact List.le_trans a b | exact List.le_trans b a))
theorem sv_mem : ∀ {vs : List Value} {ss : List Str}, StrsAre vs ss → ∀ v ∈ vs, ∃ z t, v = Value.str z t
  | _, _, .nil, v, h => absurd h (by simp)
  | _, _, .cons n t r, v, h => by
    rcases List.mem_cons.mp h with e | h
    · exact ⟨n, t, e⟩
    · exact sv_mem r v h
theorem sv_are : ∀ {vs : List Value}, (∀ v ∈ vs, ∃ z t, v = Value.str z t) → StrsAre vs (vs.map svS)
  | [], _ => .nil
  | v :: vs, h => by
    obtain ⟨i, t, e⟩ := h v List.mem_cons_self
    subst e
    exact .cons i t (sv_are fun u hu => h u (List.mem_cons_of_mem _ hu))
theorem sv_eq : ∀ {vs : List Value} {ss : List Str}, StrsAre vs ss → vs.map svS = ss
  | _, _, .nil => rfl
  | _, _, .cons n t r => congrArg (n :: ·) (sv_eq r)
theorem sv_cmp {vs : List Value} {ss : List Str} (hI : StrsAre vs ss) : Cmp prog w A s oneType' (fun p => p.1 ∈ vs) (lt2 ltSv) := by
  intro p q hm hm'
  obtain ⟨a, t, e⟩ := sv_mem hI _ hm
  obtain ⟨b, u, e'⟩ := sv_mem hI _ hm'
  show wpAny (model prog w) A (keyLt' oneType' p.1 q.1) (fun r s' => s' = s ∧ r = ltSv p.1 q.1) (fun _ _ => False) s
  rw [e, e', keyLt'_oneType]
  exact oneLt_str ⟨rfl, rfl⟩
theorem sv_sortable {a : Addr} {vs : List Value} {ss : List Str} (hI : StrsAre vs ss) (h2 : 2 ≤ vs.length) : SortableO prog w A s a vs ltSv := by
  intro h' _
  refine ⟨oneType', fun Q E hq => ?_, sv_cmp hI⟩
  match vs, hI, h2 with
  | v1 :: v2 :: rest, hI, _ =>
    rw [keyKind_strs hI]
    exact wpAny_pure hq
  | [], _, h => exact absurd h (by decide)
  | [v], _, h => exact absurd h (by simp)
abbrev RiseS (ys : List Str) : Prop := ys.Pairwise fun x y => ¬ y.cps.toList < x.cps.toList
theorem sv_out {vs out : List Value} {ss : List Str} (hI : StrsAre vs ss) (hs : Srtd ltSv out) (hb : Stb ltSv out vs) : StrsAre out (out.map svS) ∧ (out.map svS).Perm ss ∧ RiseS (out.map svS) := by
  refine ⟨sv_are fun v hv => sv_mem hI v (hb.perm.mem_iff.mp hv), ?_, ?_⟩
  · have q := hb.perm.map svS
    rw [sv_eq hI] at q
    exact q
  · exact List.pairwise_map.mpr (hs.imp fun {x y} h => of_decide_eq_false h)
end
section
variable {X : Cx}
abbrev rSortDS : List V → Hp → VK → Prop := fun xs H Q => ∃ (a : Addr) (kvs : List (Key × V)) (ks : List Str), xs = [.ref a] ∧ Rd H a (.dK kvs) ∧ kvs.map (·.1) = ks.map Sum.inr ∧
    ∀ ys p, ys.Perm ks → RiseS ys → H p = none → Q (.ref p) (upd H p (.lst (ys.map V.str)))
theorem call_sortedDS (hcalm : X.calm = true) : CallR X (.builtin "sorted") rSortDS := by
  intro pins s σ H xs us Q I r q
  obtain ⟨a, kvs, ks, ex, hd, hks, q⟩ := q
  subst ex
  obtain ⟨u, eu, rx⟩ := vals1 r
  subst eu
  cases rx
  obtain ⟨z, lo, vs, rel, dd⟩ := dk_rd I.hok hd
  obtain ⟨ep, hat⟩ := dd.dictAt
  have hkeys : vs.map (·.1) = ks.map Sum.inr := rel.keys.symm.trans hks
  have hl : vs.length = ks.length := by
    have e := congrArg List.length hkeys
    rw [List.length_map, List.length_map] at e
    exact e
  have hkl : kvs.length = ks.length := by
    have e := congrArg List.length hks
    rw [List.length_map, List.length_map] at e
    exact e
  have h16 : vs.length ≤ sizeLine := by rw [hl, ← hkl]; exact z
  refine Calls.call_function_entry PyProof.Rows.kind_sorted PyProof.Rows.plain_sorted PyProof.Rows.entry_sorted (PyProof.Rows.args_sorted1 _) ?_
  unfold Builtin.«sorted»
  refine wpAny_bind (m := checkCount "sorted" 1 1 _) (wpAny_pure ?_)
  refine wpAny_bind (PySem.W.kdu_collect (A := X.A.in1) (PySem.W.kdl_dict (knd := mixKind X.prog X.w) (kvs := vs) (ep := ep) lo) (I.ok.hd hcalm) hat h16 fun h' tk acc hk hacc => ?_)
  have hal : acc.toList.length = ks.length := by rw [Array.length_toList, hacc.1, hl]
  have hS : StrsAre acc.toList ks := strs_at hal fun j v e => by
    obtain ⟨k, x, e1, e2⟩ := hacc.2 j v (by rw [← Array.getElem?_toList]; exact e)
    have e3 : (vs.map (·.1))[j]? = some k := by rw [List.getElem?_map, e1]; all_goals rfl
    rw [hkeys, List.getElem?_map] at e3
    cases e4 : ks[j]? with
    | none => rw [e4] at e3; cases e3
    | some y =>
      rw [e4] at e3
      have e5 : Sum.inr y = k := Option.some.inj e3
      subst e5
      obtain ⟨t, ev⟩ := Value.isStrOf_shape (x := y) (v := v) e2
      exact ⟨y, t, rfl, ev⟩
  have I1 : Inv X pins σ H { s with heap := h', toks := tk } := I.kept hk
  have hsz2 : acc.toList.length ≤ sizeLine := by rw [hal, ← hl]; exact h16
  refine wpAny_bind (wpAny_newList ?_ hsz2)
  have hoL : (h'.push (seqObj "list" acc.toList.toArray 0)).get? h'.objs.size = some (seqObj "list" acc.toList.toArray 0) := Heap.get?_push_size _ rfl
  show wpAny _ _ _ _ _ { s with heap := h'.push (seqObj "list" acc.toList.toArray 0), toks := tk }
  refine wpAny_bind (wpAny_holding (wpAny_call_entry PyProof.Rows.slot_list_sort ⟨_, hoL, rfl⟩ PyProof.Rows.entry_list_sort
    (SrtO.list_sort_ord (s := { s with heap := h'.push (seqObj "list" acc.toList.toArray 0), toks := tk }) swo_sv hoL hsz2 (fun h2 => sv_sortable hS h2) fun out h1 h2 => ⟨_, rfl, ?_⟩)
    (PyProof.Rows.args_list_sort _)))
  obtain ⟨g1, g2, g3⟩ := sv_out hS h1 h2
  obtain ⟨e', he'⟩ := PyProof.Rows.sortedHeap_at (vs := acc.toList) (out := out.toArray) hoL
  have hlen : ((out.map svS).map V.str).length ≤ sizeLine := by
    rw [List.length_map, g2.length_eq, ← hal]
    exact hsz2
  refine wpAny_pure ⟨_, rfl, .ref h'.objs.size, upd H h'.objs.size (.lst ((out.map svS).map V.str)), I1.laid (t' := tk) (fun b u e => ?_) (Nat.le_refl _)
    (show ObjOk X.prog X.w _ _ _ (.lst ((out.map svS).map V.str)) from ⟨hlen, out, e', vals_of_strs g1, he'⟩), rfl, q _ _ g2 g3 (I1.hok.fresh (Nat.le_refl _))⟩
  have hb : b < h'.objs.size := Heap.lt_size e
  rw [PyProof.Rows.sortedHeap_old (Nat.ne_of_lt hb) (by rw [size_push']; exact Nat.lt_succ_of_lt hb)]
  exact Heap.get?_push_of_some _ e
end
/-! ### dicts with text keys -/
section
variable {K : PySem.W.Frag} {σ : L2.St} {H : Hp} {ta tb te tl td ty tv : TE} {D : Ends} {tu tz : TS} {d : Addr} {kvs : List (Key × V)} {v : V}
abbrev kS (t : List Nat) : Key := Sum.inr (S t)
theorem kS_inj {a b : List Nat} : kS a = kS b ↔ a = b := ⟨fun h => S_inj (Sum.inr.inj h), fun h => by rw [h]⟩
theorem ev_dget {t : List Nat} (h : Ev td σ H (.ref d)) (hy : Ev ty σ H (.str (S t))) (hd : H d = some (.dK kvs)) (hv : valV kvs (kS t) = some v) : Ev (tDGet td ty) σ H v := fun H1 e Q q =>
  h H1 e _ fun H2 e2 => hy H2 (e.trans e2) _ fun H3 e3 => ⟨d, v, rfl, by rw [← hv]; exact DGet.k (k := kS t) (e3 _ _ (e2 _ _ (e _ _ hd))), q H3 (e2.trans e3)⟩
theorem s_dput {t : List Nat} (hd : H d = some (.dK kvs)) (hz : kvs.length < 100000) (hv : Ev tv σ H v) (h : Ev td σ H (.ref d)) (hy : Ev ty σ H (.str (S t))) (k : ∀ H1, Ex H H1 → D.nx σ (upd H1 d (.dK (putK kvs (kS t) v)))) :
    sDPut td ty tv D σ H :=
  hv H (Ex.refl H) _ fun H1 e1 => h H1 e1 _ fun H2 e2 => hy H2 (e1.trans e2) _ fun H3 e3 => ⟨d, _, rfl, DPut.k (k := kS t) (e3 _ _ (e2 _ _ (e1 _ _ hd))) (sz_lt hz), k H3 ((e1.trans e2).trans e3)⟩
theorem q_dput {t : List Nat} (hd : H d = some (.dK kvs)) (hz : kvs.length < 100000) (hv : Ev tv σ H v) (h : Ev td σ H (.ref d)) (hy : Ev ty σ H (.str (S t))) (k : ∀ H1, Ex H H1 → tz D σ (upd H1 d (.dK (putK kvs (kS t) v)))) :
    tSeq (sDPut td ty tv) tz D σ H := s_dput (D := { D with nx := tz D }) hd hz hv h hy k
theorem q_dnew {i : Nat} (k : ∀ p, H p = none → tz D (σ.set i (some (.ref p))) (upd H p (.dK []))) : tSeq (tAsg tDNewK (gName i)) tz D σ H := fun p hp => k p hp
theorem et_notinD {t : List Nat} (hy : Ev ty σ H (.str (S t))) (h : Ev td σ H (.ref d)) (hd : H d = some (.dK kvs)) : EvT (tB (tDNotIn ty td)) σ H (!(valV kvs (kS t)).isSome) := fun H1 e Q q =>
  hy H1 e _ fun H2 e2 => h H2 (e.trans e2) _ fun H3 e3 => ⟨d, _, rfl, DGet.k (k := kS t) (e3 _ _ (e2 _ _ (e _ _ hd))), _, rfl, q H3 (e2.trans e3)⟩
theorem el_sortD {ks : List (List Nat)} (h : Ev td σ H (.ref d)) (hd : H d = some (.dK kvs)) (hk : kvs.map (·.1) = ks.map kS) (hn : ks.Nodup) (P : List (List Nat) → Prop)
    (hP : ∀ ys : List (List Nat), ys.Perm ks → ys.Pairwise (· < ·) → P ys) :
    ∀ H1, Ex H H1 → ∀ Q : VK, (∀ ys p H2, P ys → H1 p = none → Ex H1 H2 → H2 p = some (.lst (ys.map fun t => V.str (S t))) → Q (.ref p) H2) → tCB rSortDS (tCons td tNil) σ H1 Q := fun H1 e Q q =>
  h H1 e _ fun H2 e2 => ⟨d, kvs, ks.map S, rfl, Or.inl (e2 _ _ (e _ _ hd)), by rw [hk, List.map_map]; rfl, fun ys p h1 h2 hp => by
    have e3 : ys.map V.str = (ys.map fun z => z.cps.toList).map fun t => V.str (S t) := by
      rw [List.map_map]
      exact List.map_congr_left fun z _ => rfl
    rw [e3]
    have pm : (ys.map fun z => z.cps.toList).Perm ks := by
      have := h1.map fun z : Str => z.cps.toList
      rw [List.map_map] at this
      have e4 : ks.map ((fun z : Str => z.cps.toList) ∘ S) = ks := by
        conv => rhs; rw [← List.map_id ks]
        exact List.map_congr_left fun z _ => rfl
      rw [e4] at this
      exact this
    refine q _ p _ (hP _ pm ?_) (fresh_back e2 hp) (e2.trans (Ex.new hp)) upd_same
    have nd : (ys.map fun z => z.cps.toList).Nodup := pm.nodup_iff.mpr hn
    have le : (ys.map fun z => z.cps.toList).Pairwise fun x y => ¬ y < x := List.pairwise_map.mpr h2
    exact (le.and nd).imp fun {x y} ⟨h1, h2⟩ => by
      by_cases z : x < y
      · exact z
      · rw [List.not_lt] at h1 z
        exact absurd (List.le_antisymm h1 z) h2⟩
/-! ### for i, x in enumerate(list), for x, y in zip(list, list) -/
theorem s_forE {xs : List V} {i1 i2 : Nat} {ta : TA} (h : ∀ Q : List V → Hp → Prop, (∀ p H1, H p = none → Ex H H1 → H1 p = some (.lst xs) → Q [.ref p] H1) → ta σ H Q) (Pv : Addr → Nat → L2.St → Hp → Prop) (h0 : ∀ p H1, H p = none → Ex H H1 → H1 p = some (.lst xs) → Pv p 0 σ H1)
    (hl : ∀ p i σ' H', Pv p i σ' H' → SqL K H' p xs)
    (hs : ∀ p i x σ' H', xs[i]? = some x → Pv p i σ' H' → ∀ H2, Ex H' H2 → tu { D with nx := Pv p (i + 1), ct := Pv p (i + 1), bk := D.nx } ((σ'.set i1 (some (.int (i : Int)))).set i2 (some x)) H2) (hd : ∀ p σ' H', Pv p xs.length σ' H' → D.nx σ' H') :
    tFor (iEnum K ta) (gTup K 2 (gCons (gName i1) (gCons (gName i2) gNil))) tu D σ H :=
  h _ fun p H1 hp e h1 => ⟨p, xs, rfl, sq_of h1, for_it (walk_enum (K := K) (a := p) (xs := xs)) (Pv p) (h0 p H1 hp e h1) (fun i σ' H' _ q => hl p i σ' H' q) (fun i x σ' H2 H3 hi q y => by
    obtain ⟨T, x1, x2, rfl, hT, rfl, e1, e2⟩ := y
    cases e1
    exact ⟨T, _, rfl, Or.inl (Or.inl upd_same), rfl, _, _, rfl, _, _, rfl, rfl, hs p i x2 σ' _ e2 q _ (Ex.new hT)⟩) (fun σ' H2 q => hd p σ' H2 q)⟩
theorem q_forE {xs : List V} {i1 i2 : Nat} {ta : TA} (h : ∀ Q : List V → Hp → Prop, (∀ p H1, H p = none → Ex H H1 → H1 p = some (.lst xs) → Q [.ref p] H1) → ta σ H Q) (Pv : Addr → Nat → L2.St → Hp → Prop) (h0 : ∀ p H1, H p = none → Ex H H1 → H1 p = some (.lst xs) → Pv p 0 σ H1)
    (hl : ∀ p i σ' H', Pv p i σ' H' → SqL K H' p xs)
    (hs : ∀ p i x σ' H', xs[i]? = some x → Pv p i σ' H' → ∀ H2, Ex H' H2 → tu { D with nx := Pv p (i + 1), ct := Pv p (i + 1), bk := tz D } ((σ'.set i1 (some (.int (i : Int)))).set i2 (some x)) H2) (hd : ∀ p σ' H', Pv p xs.length σ' H' → tz D σ' H') :
    tSeq (tFor (iEnum K ta) (gTup K 2 (gCons (gName i1) (gCons (gName i2) gNil))) tu) tz D σ H := s_forE (D := { D with nx := tz D }) h Pv h0 hl hs hd
theorem ea_new {xs : List V} (h : EvL te σ H xs) : ∀ Q : List V → Hp → Prop, (∀ p H1, H p = none → Ex H H1 → H1 p = some (.lst xs) → Q [.ref p] H1) → tCons te tNil σ H Q := fun Q q =>
  h H (Ex.refl H) _ fun p H1 hp e h1 => q p H1 hp e h1
end
end Fw
namespace Fw
open PySem PySem.Spec PyProof.Rows L2 Evl
section
variable {K : PySem.W.Frag} {σ : L2.St} {H : Hp} {ta tb te tl td ty tv : TE} {D : Ends} {tu tz : TS} {kvs : List (Key × V)} {v : V}
/-! ### the keys of a dict -/
structure DKeys (kvs : List (Key × V)) (ks : List (List Nat)) : Prop where
  eq : kvs.map (·.1) = ks.map kS
  nd : ks.Nodup
theorem DKeys.nil : DKeys [] [] := ⟨rfl, List.nodup_nil⟩
theorem DKeys.none {ks : List (List Nat)} (h : DKeys kvs ks) {t : List Nat} (ht : t ∉ ks) : valV kvs (kS t) = none := by
  cases e : valV kvs (kS t) with
  | none => rfl
  | some x =>
    have := valV_in e
    rw [h.eq] at this
    obtain ⟨u, hu, e2⟩ := List.mem_map.mp this
    rw [kS_inj.mp e2] at hu
    exact absurd hu ht
theorem DKeys.some {ks : List (List Nat)} (h : DKeys kvs ks) {t : List Nat} (ht : t ∈ ks) : (valV kvs (kS t)).isSome = true := by
  cases e : valV kvs (kS t) with
  | none =>
    have := valV_not e
    rw [h.eq] at this
    exact absurd (List.mem_map.mpr ⟨t, ht, rfl⟩) this
  | some x => rfl
theorem DKeys.put {ks : List (List Nat)} (h : DKeys kvs ks) (t : List Nat) (v : V) : ∃ ks', DKeys (putK kvs (kS t) v) ks' ∧ ∀ u, u ∈ ks' ↔ u = t ∨ u ∈ ks := by
  by_cases ht : t ∈ ks
  · refine ⟨ks, ⟨?_, h.nd⟩, fun u => ⟨Or.inr, fun z => z.elim (fun e => e ▸ ht) id⟩⟩
    rw [← h.eq]
    unfold putK
    rw [valV_any, h.some ht, if_pos rfl, List.map_map]
    refine List.map_congr_left fun kv _ => ?_
    show (if kv.1 = kS t then (kv.1, v) else kv).1 = kv.1
    split <;> rfl
  · refine ⟨ks ++ [t], ⟨?_, nd_snoc h.nd ht⟩, fun u => by rw [List.mem_append, List.mem_singleton]; exact Or.comm⟩
    rw [putK_new v (h.none ht), List.map_append, List.map_append, h.eq]
    rfl
theorem putK_le (kvs : List (Key × V)) (k : Key) (v : V) : (putK kvs k v).length ≤ kvs.length + 1 := by
  unfold putK
  split
  · rw [List.length_map]; omega
  · rw [List.length_append]; simp
/-- for x in (a, b, ..), the tuple new -/
theorem s_forNT {xs : List V} {j : Nat} (h : EvU tl σ H xs) (Pv : Addr → Nat → L2.St → Hp → Prop) (h0 : ∀ p H1, H p = none → Ex H H1 → H1 p = some (.tup xs) → Pv p 0 σ H1) (hl : ∀ p i σ' H', Pv p i σ' H' → SqT K H' p xs)
    (hs : ∀ p i x σ' H', xs[i]? = some x → Pv p i σ' H' → tu { D with nx := Pv p (i + 1), ct := Pv p (i + 1), bk := D.nx } (σ'.set j (some x)) H') (hd : ∀ p σ' H', Pv p xs.length σ' H' → D.nx σ' H') : tFor (iTup K tl) (gName j) tu D σ H :=
  h H (Ex.refl H) _ fun p H1 hp e h1 => ⟨p, rfl, ⟨xs, st_of h1⟩, for_tup (Pv p) (h0 p H1 hp e h1) (fun i σ' H' _ q => hl p i σ' H' q) (fun i x σ' H' hi q => hs p i x σ' H' hi q) (hd p)⟩
theorem q_forNT {xs : List V} {j : Nat} (h : EvU tl σ H xs) (Pv : Addr → Nat → L2.St → Hp → Prop) (h0 : ∀ p H1, H p = none → Ex H H1 → H1 p = some (.tup xs) → Pv p 0 σ H1) (hl : ∀ p i σ' H', Pv p i σ' H' → SqT K H' p xs)
    (hs : ∀ p i x σ' H', xs[i]? = some x → Pv p i σ' H' → tu { D with nx := Pv p (i + 1), ct := Pv p (i + 1), bk := tz D } (σ'.set j (some x)) H') (hd : ∀ p σ' H', Pv p xs.length σ' H' → tz D σ' H') : tSeq (tFor (iTup K tl) (gName j) tu) tz D σ H :=
  s_forNT (D := { D with nx := tz D }) h Pv h0 hl hs hd
theorem ev_ixLm {xs : List V} {i : Int} {v : V} (ha : EvL ta σ H xs) (hb : Ev tb σ H (.int i)) (hv : atI xs i = some v) : Ev (tOp (rIxL K) ta tb) σ H v := ev_ixL0 ha hb hv
theorem s_retDS {ks : List (List Nat)} {d : Addr} (h : Ev td σ H (.ref d)) (hd : H d = some (.dK kvs)) (hk : DKeys kvs ks) (k : ∀ (ys : List (List Nat)) p H2, ys.Perm ks → ys.Pairwise (· < ·) → H p = none → Ex H H2 → H2 p = some (.lst (ys.map fun t => V.str (S t))) → D.rt (.ref p) H2) :
    tRet (tCB rSortDS (tCons td tNil)) D σ H :=
  el_sortD h hd hk.eq hk.nd (fun ys => ys.Perm ks ∧ ys.Pairwise (· < ·)) (fun ys h1 h2 => ⟨h1, h2⟩) H (Ex.refl H) _ fun ys p H2 hP hp e h2 => k ys p H2 hP.1 hP.2 hp e h2
end
end Fw

set_option Elab.async false
set_option linter.all false
set_option maxRecDepth 100000
set_option maxHeartbeats 4000000
namespace Fw
open PySem PySem.Spec PyProof.Rows L2 Evl
theorem S_abc : Str.ofString "abcdefghijklmnopqrstuvwxyz" = S (lets 26) := by decide +kernel
theorem lets_get {s k : Nat} (h : k < s) : (lets s)[k]? = some (k + 97) := by
  unfold lets
  rw [List.getElem?_map, List.getElem?_range h]; rfl
theorem over_of {s : Nat} {a b : Wd} (h : Over s a) (hb : ∀ c ∈ b, c ∈ a) : Over s b := fun c hc => h c (hb c hc)
theorem Over.take {s : Nat} {a : Wd} (h : Over s a) (k : Nat) : Over s (a.take k) := over_of h fun _ hc => List.mem_of_mem_take hc
theorem Over.drop {s : Nat} {a : Wd} (h : Over s a) (k : Nat) : Over s (a.drop k) := over_of h fun _ hc => List.mem_of_mem_drop hc
theorem Over.app {s : Nat} {a b : Wd} (h : Over s a) (h2 : Over s b) : Over s (a ++ b) := fun c hc => (List.mem_append.mp hc).elim (h c) (h2 c)
theorem Over.rep {s : Nat} {a : Wd} (h : Over s a) (k : Nat) : Over s (List.replicate k a).flatten := fun c hc => by
  obtain ⟨l, hl, hc⟩ := List.mem_flatten.mp hc
  rw [(List.mem_replicate.mp hl).2] at hc
  exact h c hc
theorem Over.one {s c : Nat} (h : c < s) : Over s [c + 97] := fun d hd => by
  have : d = c + 97 := by simpa using hd
  omega
theorem Over.le {s t : Nat} {a : Wd} (h : Over s a) (hst : s ≤ t) : Over t a := fun c hc => by
  have := h c hc
  omega

theorem fdiv_ok {i : Int} {k : Int} (h : 0 < k ∧ k < 1073741824) : CDiv i k := h
theorem ev_letter {σ : L2.St} {H : Hp} {ta tb : TE} {s : Nat} {i : Int} (hs : 0 < s) (hs2 : s ≤ 26) (ha : Ev ta σ H (.str (S (lets s)))) (hb : Ev tb σ H (.int (i % (s : Int)))) : Ev (tOp rIxS ta tb) σ H (.str (S [(i % (s : Int)).toNat + 97])) := by
  have h1 := Int.emod_nonneg i (show (s : Int) ≠ 0 by omega)
  have h2 := Int.emod_lt_of_pos i (show (0 : Int) < s by omega)
  obtain ⟨k, hk⟩ := Int.eq_ofNat_of_zero_le h1
  rw [hk] at hb ⊢
  rw [Int.toNat_natCast]
  exact ev_op ha hb (rv_item (by rw [lets_len]; omega) (lets_get (by omega)))
theorem letter_lt {i : Int} {s : Nat} (hs : 0 < s) : (i % (s : Int)).toNat < s := by
  have h1 := Int.emod_nonneg i (show (s : Int) ≠ 0 by omega)
  have h2 := Int.emod_lt_of_pos i (show (0 : Int) < s by omega)
  omega
theorem rv_div {H : Hp} {i k : Int} (h : 0 < k ∧ k < 1073741824) : RV (rI CDiv fun i j => .int (i / j)) (.int i) (.int k) H (.int (i / k)) := rv_I h
theorem rv_mod {H : Hp} {i k : Int} (h : 0 < k) : RV (rI (fun _ j => 0 < j) fun i j => .int (i % j)) (.int i) (.int k) H (.int (i % k)) := rv_I h

theorem cut_init (w : List Nat) : cutS (S w) none (some (-1)) = S w.dropLast := by
  unfold cutS
  rw [HT.sIx_none, S_len, List.drop_zero, Nat.sub_zero, List.dropLast_eq_take]
  congr 2
  show w.take (HT.sIx w.length w.length (some (-1))) = _
  congr 1
  show (if (-1 : Int) < 0 then ((-1 : Int) + (w.length : Int)).toNat else min (-1 : Int).toNat w.length) = w.length - 1
  rw [if_pos (by decide)]
  omega
theorem ev_init {w : List Nat} {te : TE} {th : TO} {σ : L2.St} {H : Hp} (h : Ev te σ H (.str (S w))) (h2 : EvO th σ H (some (-1))) (hz : w.length ≤ 100000) : Ev (tSl rSlS te tNoPart th) σ H (.str (S w.dropLast)) := by
  rw [← cut_init]
  exact ev_slT h eo_none h2 (by rw [S_len]; exact hz)
theorem q_asgD {σ : L2.St} {H : Hp} {ta : TA} {sp : Sp} {vs : List V} {E : XK} {i : Nat} {tz : TS} {D : Ends} (h : EvA ta σ H vs) (k : ∀ H1, Ex H H1 → sp (vs ++ []) H1 (fun v H2 => tz D (σ.set i (some v)) H2) E) : tSeq (tAsg (tCall sp [] E ta) (gName i)) tz D σ H :=
  h H (Ex.refl H) _ k
end Fw

set_option Elab.async false
set_option linter.all false
set_option maxRecDepth 100000
set_option maxHeartbeats 4000000
namespace Fw
open PySem PySem.Spec PyProof.Rows L2 Evl
section
variable {K : PySem.W.Frag} {σ : L2.St} {H : Hp} {ta tb te tl : TE} {D : Ends} {tu tz : TS} {xs ys : List V} {t : TT}
/-- list + list -/
theorem el_cat (ha : EvL ta σ H xs) (hb : EvL tb σ H ys) (hl : xs.length + ys.length ≤ 100000) : EvL (tOp rCat ta tb) σ H (xs ++ ys) := fun H1 e Q q =>
  ha H1 e _ fun p H2 _ e2 h2 => hb H2 (e.trans e2) _ fun r H3 _ e3 h3 => ⟨p, r, xs, ys, rfl, rfl, e3 _ _ h2, h3, sz_of hl, fun l hl => q l _ (fresh_back (e2.trans e3) hl) ((e2.trans e3).trans (Ex.new hl)) upd_same⟩
theorem el_catV {a : Addr} (ha : Ev ta σ H (.ref a)) (h : H a = some (.lst xs)) (hb : EvL tb σ H ys) (hl : xs.length + ys.length ≤ 100000) : EvL (tOp rCat ta tb) σ H (xs ++ ys) := fun H1 e Q q =>
  ha H1 e _ fun H2 e2 => hb H2 (e.trans e2) _ fun r H3 _ e3 h3 => ⟨a, r, xs, ys, rfl, rfl, e3 _ _ (e2 _ _ (e _ _ h)), h3, sz_of hl, fun l hl => q l _ (fresh_back (e2.trans e3) hl) ((e2.trans e3).trans (Ex.new hl)) upd_same⟩
theorem el_is (h : EvL te σ H xs) (e : xs = ys) : EvL te σ H ys := by
  rw [← e]
  exact h
/-- for i, x in enumerate(list), the list stands -/
theorem s_forEx {i1 i2 : Nat} {ta : TA} {p : Addr} (h : EvA ta σ H [.ref p]) (hx : SqL K H p xs) (Pv : Nat → L2.St → Hp → Prop) (h0 : ∀ H1, Ex H H1 → Pv 0 σ H1)
    (hl : ∀ i σ' H', Pv i σ' H' → SqL K H' p xs)
    (hs : ∀ i x σ' H', xs[i]? = some x → Pv i σ' H' → ∀ H2, Ex H' H2 → tu { D with nx := Pv (i + 1), ct := Pv (i + 1), bk := D.nx } ((σ'.set i1 (some (.int (i : Int)))).set i2 (some x)) H2) (hd : ∀ σ' H', Pv xs.length σ' H' → D.nx σ' H') :
    tFor (iEnum K ta) (gTup K 2 (gCons (gName i1) (gCons (gName i2) gNil))) tu D σ H :=
  h H (Ex.refl H) _ fun H1 e => ⟨p, xs, rfl, ex_l e hx, for_it (walk_enum (K := K) (a := p) (xs := xs)) Pv (h0 H1 e) (fun i σ' H' _ q => hl i σ' H' q) (fun i x σ' H2 H3 hi q y => by
    obtain ⟨T, x1, x2, rfl, hT, rfl, e1, e2⟩ := y
    cases e1
    exact ⟨T, _, rfl, Or.inl (Or.inl upd_same), rfl, _, _, rfl, _, _, rfl, rfl, hs i x2 σ' _ e2 q _ (Ex.new hT)⟩) (fun σ' H2 q => hd σ' H2 q)⟩
theorem q_forEx {i1 i2 : Nat} {ta : TA} {p : Addr} (h : EvA ta σ H [.ref p]) (hx : SqL K H p xs) (Pv : Nat → L2.St → Hp → Prop) (h0 : ∀ H1, Ex H H1 → Pv 0 σ H1)
    (hl : ∀ i σ' H', Pv i σ' H' → SqL K H' p xs)
    (hs : ∀ i x σ' H', xs[i]? = some x → Pv i σ' H' → ∀ H2, Ex H' H2 → tu { D with nx := Pv (i + 1), ct := Pv (i + 1), bk := tz D } ((σ'.set i1 (some (.int (i : Int)))).set i2 (some x)) H2) (hd : ∀ σ' H', Pv xs.length σ' H' → tz D σ' H') :
    tSeq (tFor (iEnum K ta) (gTup K 2 (gCons (gName i1) (gCons (gName i2) gNil))) tu) tz D σ H := s_forEx (D := { D with nx := tz D }) h hx Pv h0 hl hs hd
/-- [(..)], one tuple in a list -/
theorem s_lstU {i : Nat} {us : List V} (hu : EvU tb σ H us) (k : ∀ t p H1, H t = none → H p = none → t ≠ p → Ex H H1 → H1 t = some (.tup us) → H1 p = some (.lst [.ref t]) → tz D (σ.set i (some (.ref p))) H1) : tSeq (tAsg (tLst (tCons tb tNil)) (gName i)) tz D σ H :=
  hu H (Ex.refl H) _ fun t H1 ht e1 h1 => ⟨sz_of (by show 1 ≤ 100000; decide), fun p hp => k t p _ ht (fresh_back e1 hp) (ne_of_none h1 hp) (e1.trans (Ex.new hp)) ((upd_ne (ne_of_none h1 hp)).trans h1) upd_same⟩
/-- [e for x in l if p], told by filter -/
theorem given_sel {α : Type} (xs : List α) (p : α → Bool) (g : α → V) (f : Nat → Bool) (v : Nat → V) (hf : ∀ i x, xs[i]? = some x → f i = p x) (hv : ∀ i x, xs[i]? = some x → v i = g x) : given xs.length f v = (xs.filter p).map g := by
  have key : ∀ k, k ≤ xs.length → given k f v = ((xs.take k).filter p).map g := by
    intro k
    induction k with
    | zero => intro _; rfl
    | succ k ih =>
      intro hk
      obtain ⟨x, hx⟩ : ∃ x, xs[k]? = some x := ⟨xs[k], List.getElem?_eq_getElem (by omega)⟩
      rw [take_more hx, List.filter_append, List.map_append, ← ih (by omega)]
      have h1 := hf k x hx
      cases hp : p x with
      | true =>
        rw [hp] at h1
        rw [given_yes h1, List.filter_cons, if_pos hp, hv k x hx]; rfl
      | false =>
        rw [hp] at h1
        rw [given_no h1, List.filter_cons, if_neg (by rw [hp]; decide)]
        show _ = _ ++ []
        rw [List.append_nil]
  have := key _ (Nat.le_refl _)
  rw [List.take_length] at this
  exact this
theorem el_selS {α : Type} {xs : List α} {j : Nat} {vs : List Nat} {a : α → V} {q : Addr} (p : α → Bool) (g : α → V) (h : Ev tl σ H (.ref q)) (hl : SqL K H q (xs.map a)) (hz : xs.length ≤ 40000) (hw : ∀ x, wipe ((wipe σ vs).set j (some x)) vs = wipe σ vs)
    (ht : ∀ n, n ∈ xs → ∀ H1, Ex H H1 → EvT t ((wipe σ vs).set j (some (a n))) H1 (p n)) (he : ∀ n, n ∈ xs → ∀ H1, Ex H H1 → Ev te ((wipe σ vs).set j (some (a n))) H1 (g n)) : EvL (tLc (iList K tl) (gName j) t te vs) σ H ((xs.filter p).map g) := by
  have := el_lcL (K := K) (xs := xs.map a) (fun i => (xs[i]?.map p).getD false) (fun i => (xs[i]?.map g).getD .non) h hl (by rw [List.length_map]; exact hz) hw (t := t) (fun i x H1 e hx => by
    rw [List.getElem?_map] at hx
    cases hn : xs[i]? with
    | none => rw [hn] at hx; cases hx
    | some n =>
      rw [hn] at hx
      cases hx
      exact ht n (List.mem_of_getElem? hn) H1 e) (te := te) (fun i x H1 e hx _ => by
    rw [List.getElem?_map] at hx
    cases hn : xs[i]? with
    | none => rw [hn] at hx; cases hx
    | some n =>
      rw [hn] at hx
      cases hx
      exact he n (List.mem_of_getElem? hn) H1 e)
  rw [List.length_map, given_sel xs p g _ _ (fun i x hx => by rw [hx]; rfl) (fun i x hx => by rw [hx]; rfl)] at this
  exact this
/-- text.find -/
theorem ev_find {a b : List Nat} {to : TE} {ta : TA} (h : Ev to σ H (.str (S a))) (ha : EvA ta σ H [.str (S b)]) :
    Ev (tBM K "str" (fun x xs H Q => ∃ a b, x = .str a ∧ xs = [.str b] ∧ Q (.int (Txt.find a b)) H) to ta) σ H (.int (Txt.find (S a) (S b))) :=
  ev_bmT h ha fun H1 _ Q q => ⟨S a, S b, rfl, rfl, q⟩
theorem at_is {a b : List Nat} {i : Nat} : PySem.StrLaws.At (S a) (S b) (S a).length i ↔ i + b.length ≤ a.length ∧ (a.drop i).take b.length = b := by
  unfold PySem.StrLaws.At
  rw [PySem.StrLaws.subAt_eq, S_len, S_len]
  show _ ∧ ((a.drop i).take b.length == b) = true ↔ _
  rw [beq_iff_eq]
/-- a text that ends in b: b is found at that end first where it is nowhere ahead -/
theorem find_end {a b : List Nat} (h : b <:+ a) (h0 : 0 < b.length) : Txt.find (S a) (S b) = (a.length : Int) - (b.length : Int) ↔ ¬ b <:+: a.dropLast := by
  obtain ⟨u, rfl⟩ := h
  have hend : PySem.StrLaws.At (S (u ++ b)) (S b) (S (u ++ b)).length u.length := at_is.mpr ⟨by rw [List.length_append]; exact Nat.le_refl _, by rw [List.drop_left, List.take_length]⟩
  have e0 : ((u ++ b).length : Int) - (b.length : Int) = (u.length : Int) := by rw [List.length_append]; omega
  rw [e0]
  have at_inf : ∀ k, k < u.length → (PySem.StrLaws.At (S (u ++ b)) (S b) (S (u ++ b)).length k) → b <:+: (u ++ b).dropLast := fun k hk hat => by
    obtain ⟨h1, h2⟩ := at_is.mp hat
    rw [List.dropLast_eq_take]
    refine ⟨(u ++ b).take k, ((u ++ b).drop (k + b.length)).take (u.length - k - 1), ?_⟩
    have e1 : (u ++ b).take (k + b.length) = (u ++ b).take k ++ b := by
      rw [List.take_add]
      rw [h2]
    rw [← e1, ← List.take_add]
    congr 1
    rw [List.length_append]
    omega
  rcases PyProof.Rows.find_whole (S (u ++ b)) (S b) with ⟨_, hn⟩ | ⟨i, hi, hat, hno⟩
  · exact absurd hend (hn _)
  · rw [hi]
    constructor
    · intro e
      have e : i = u.length := by omega
      subst e
      rintro ⟨x, y, e2⟩
      have hxl : x.length < u.length := by
        have := congrArg List.length e2
        simp only [List.length_append, List.length_dropLast] at this
        omega
      refine hno x.length hxl (at_is.mpr ⟨by rw [List.length_append]; omega, ?_⟩)
      have e3 : (u ++ b) = x ++ b ++ y ++ [(u ++ b).getLast (by intro z; have := congrArg List.length z; rw [List.length_append, List.length_nil] at this; omega)] := by
        conv => lhs; rw [← List.dropLast_concat_getLast (l := u ++ b) (by intro z; have := congrArg List.length z; rw [List.length_append, List.length_nil] at this; omega)]
        rw [e2]
      rw [e3, List.append_assoc, List.append_assoc, List.drop_left, List.take_left]
    · intro hq
      by_cases e : i = u.length
      · rw [e]
      · have : ¬ u.length < i := fun z => hno _ z hend
        exact absurd (at_inf i (by omega) hat) hq
end
end Fw

set_option Elab.async false
set_option linter.all false
set_option maxRecDepth 100000
set_option maxHeartbeats 4000000
namespace Fw
open PySem PySem.Spec PyProof.Rows L2 Evl
/-! ### a def of the module that may raise, by its name -/
structure Cr (P : Program) (w : World) (K : PySem.W.Frag) (mg : Str → Option Value) (base : Heap) (k : Nat) (x : Str) (sp : Sp) : Prop where
  ex : ∃ (f : Addr) (fd : FuncData) (ps : List Str), FnOk P w K mg base (L2.CX P w) k f fd ps sp ∧ mg x = some (.ref f) ∧ PySem.W.keepIn K (.ref f) = true ∧ Binds K fd ps []
/-- an own error without a field, over ValueError -/
structure XC (K : PySem.W.Frag) (mg : Str → Option Value) (x : Str) (C : Addr) : Prop where
  g : mg x = some (.ref C)
  q : PySem.W.excIn K C [.type "ValueError", .type "Exception", .type "BaseException", .type "object"] "ValueError.__new__" = true
  k : PySem.W.keepIn K (.ref C) = true
  b : PySem.W.subIn K (.ref C) (.type "BaseException") = some true
  t : PySem.W.typeIn K (.ref C) = some (.type "type")
def tRx (W : WX) (C : Addr) : TS := fun _ σ H => W (.ref C) none σ H
section
variable {X : Cx} {k j : Nat} {x m : Str} {sp : Sp} {p p2 pos pos2 : Pos} {e : Expr} {es : List Expr} {t : TA} {W : WX} {C : Addr}
theorem pe_cr (c : Cr X.prog X.w X.K X.mg X.base k x sp) (tk : Takes X W) (hr : Room j X.A) (ha : PA X (e :: es) t) (hk : k ≤ j := by decide) (hg : Gl X x := by rfl)
    (hdb : (x == ("__debug__" : Str)) = false := by decide) (he : starEach (e :: es) X.env = (false, eval e X.env) :: starEach es X.env := by rfl) (hpl : (backTo pos (starEach es X.env)).any (·.1) = false := by rfl) :
    PE X (.Call (.Name x p) (e :: es) [] pos) (tCallS sp (WE W) t) := by
  obtain ⟨f, fd, ps, F, hm, kp, b⟩ := c.ex
  exact pe_callS F (hr.mono hk) hg hm kp b (fun σ => passAt tk σ) ha hdb he hpl
theorem ps_rx {i : Nat} (c : XC X.K X.mg x C) (hc : X.calm = true) (tk : Takes X W) (hg : Gl X x := by rfl) (hdb : (x == ("__debug__" : Str)) = false := by decide) :
    PS X (.Raise (some (.Call (.Name x p) [.Constant (.str m) i p2] [] pos)) none pos2) (tRx W C) :=
  ps_raise hc tk (pmk_own PySem.F.excBase_ValueError c.q c.g c.k (raises_own c.b c.t) hg hdb)
end
/-! ### promises of such defs -/
/-- all is well, or C is raised -/
def spA (Ok : List V → Hp → Prop) (C : Addr) (Bad : List V → Hp → Prop) : Sp := fun vs H Q E => (Ok vs H ∧ ∀ H', Ex H H' → Q .non H') ∨ (Bad vs H ∧ ∀ H', Ex H H' → E (.ref C) none H')
/-- one of the errors is raised -/
def spX (R : List V → Hp → Addr → Prop) : Sp := fun vs H _ E => ∃ C, R vs H C ∧ ∀ H', Ex H H' → E (.ref C) none H'
section
variable {K : PySem.W.Frag} {σ : L2.St} {H : Hp} {ta : TA} {ua ub te tb : TE} {D : Ends} {tu tv tz : TS} {vs : List V} {W : WX} {C : Addr} {Ok Bad : List V → Hp → Prop} {R : List V → Hp → Addr → Prop} {t : TT}
theorem q_okA {E : L2.St → XK} (h : EvA ta σ H vs) (ho : ∀ H1, Ex H H1 → Ok vs H1) (k : ∀ H1, Ex H H1 → tz D σ H1) : tSeq (tDrop (tCallS (spA Ok C Bad) E ta)) tz D σ H :=
  h H (Ex.refl H) _ fun H1 e1 => Or.inl ⟨ho H1 e1, fun H2 e2 => k H2 (e1.trans e2)⟩
theorem q_badA {E : L2.St → XK} (h : EvA ta σ H vs) (hb : ∀ H1, Ex H H1 → Bad vs H1) (k : ∀ H1, Ex H H1 → E σ (.ref C) none H1) : tSeq (tDrop (tCallS (spA Ok C Bad) E ta)) tz D σ H :=
  h H (Ex.refl H) _ fun H1 e1 => Or.inr ⟨hb H1 e1, fun H2 e2 => k H2 (e1.trans e2)⟩
/-- it raises, whatever is wished of its value -/
def Er (te : TE) (σ : L2.St) (H : Hp) : Prop := ∀ H1, Ex H H1 → ∀ Q : VK, te σ H1 Q
theorem er_call {E : L2.St → XK} (h : EvA ta σ H vs) (hR : ∀ H1, Ex H H1 → R vs H1 C) (k : ∀ H1, Ex H H1 → E σ (.ref C) none H1) : Er (tCallS (spX R) E ta) σ H := fun H1 e1 Q =>
  h H1 e1 _ fun H2 e2 => ⟨C, hR H2 (e1.trans e2), fun H3 e3 => k H3 ((e1.trans e2).trans e3)⟩
theorem er_if {b : Bool} (h : EvT t σ H b) (h1 : b = true → Er ua σ H) (h2 : b = false → Er ub σ H) : Er (tIf t ua ub) σ H := fun H1 e1 Q => h H1 e1 _ fun H2 e2 => by
  cases b with
  | true => exact h1 rfl H2 (e1.trans e2) Q
  | false => exact h2 rfl H2 (e1.trans e2) Q
theorem s_retE (h : Er te σ H) : tRet te D σ H := h H (Ex.refl H) _
theorem s_dropE (h : Er te σ H) : tDrop te D σ H := h H (Ex.refl H) _
theorem Er.mono {H' : Hp} (e : Ex H H') (h : Er te σ H) : Er te σ H' := fun H1 e1 Q => h H1 (e.trans e1) Q
end
/-! ### values of any kind -/
def Kd (H : Hp) (x : V) (t : String) : Prop := (x = .non ∧ t = "NoneType") ∨ (∃ b, x = .bl b ∧ t = "bool") ∨ (∃ i, x = .int i ∧ t = "int") ∨ (∃ z, x = .str z ∧ t = "str") ∨
  (∃ a xs, x = .ref a ∧ H a = some (.lst xs) ∧ t = "list") ∨ (∃ a xs, x = .ref a ∧ H a = some (.tup xs) ∧ t = "tuple")
section
variable {K : PySem.W.Frag} {H H' : Hp} {x : V} {t : String}
theorem Kd.mono (h : Kd H x t) (e : Ex H H') : Kd H' x t := by
  rcases h with h | h | h | h | ⟨a, xs, h1, h2, h3⟩ | ⟨a, xs, h1, h2, h3⟩
  · exact Or.inl h
  · exact Or.inr (Or.inl h)
  · exact Or.inr (Or.inr (Or.inl h))
  · exact Or.inr (Or.inr (Or.inr (Or.inl h)))
  · exact Or.inr (Or.inr (Or.inr (Or.inr (Or.inl ⟨a, xs, h1, e _ _ h2, h3⟩))))
  · exact Or.inr (Or.inr (Or.inr (Or.inr (Or.inr ⟨a, xs, h1, e _ _ h2, h3⟩))))
theorem Kd.ty (h : Kd H x t) : TyX K H x (.type t) := by
  rcases h with ⟨rfl, rfl⟩ | ⟨b, rfl, rfl⟩ | ⟨b, rfl, rfl⟩ | ⟨b, rfl, rfl⟩ | ⟨a, xs, rfl, h2, rfl⟩ | ⟨a, xs, rfl, h2, rfl⟩
  · exact .base .non
  · exact .base (.bl _)
  · exact .base (.int _)
  · exact .base (.str _)
  · exact .base (.lst h2)
  · exact .base (.tup h2)
theorem Kd.noInt (h : Kd H x t) (hn : t ≠ "int") : (kitB t "int" = some true ∧ kitB t "bool" = some true) ∨ kitB t "int" = some false := by
  rcases h with ⟨rfl, rfl⟩ | ⟨b, rfl, rfl⟩ | ⟨b, rfl, rfl⟩ | ⟨b, rfl, rfl⟩ | ⟨a, xs, rfl, h2, rfl⟩ | ⟨a, xs, rfl, h2, rfl⟩
  · exact Or.inr (by decide +kernel)
  · exact Or.inl ⟨by decide +kernel, by decide +kernel⟩
  · exact absurd rfl hn
  · exact Or.inr (by decide +kernel)
  · exact Or.inr (by decide +kernel)
  · exact Or.inr (by decide +kernel)
theorem Kd.noStr (h : Kd H x t) (hn : t ≠ "str") : kitB t "str" = some false := by
  rcases h with ⟨rfl, rfl⟩ | ⟨b, rfl, rfl⟩ | ⟨b, rfl, rfl⟩ | ⟨b, rfl, rfl⟩ | ⟨a, xs, rfl, h2, rfl⟩ | ⟨a, xs, rfl, h2, rfl⟩
  · decide +kernel
  · decide +kernel
  · decide +kernel
  · exact absurd rfl hn
  · decide +kernel
  · decide +kernel
end
theorem kd_non {H : Hp} : Kd H .non "NoneType" := Or.inl ⟨rfl, rfl⟩
theorem kd_bl {H : Hp} {b : Bool} : Kd H (.bl b) "bool" := Or.inr (Or.inl ⟨b, rfl, rfl⟩)
theorem kd_int {H : Hp} {b : Int} : Kd H (.int b) "int" := Or.inr (Or.inr (Or.inl ⟨b, rfl, rfl⟩))
theorem kd_str {H : Hp} {b : Str} : Kd H (.str b) "str" := Or.inr (Or.inr (Or.inr (Or.inl ⟨b, rfl, rfl⟩)))
theorem kd_lst {H : Hp} {a : Addr} {xs : List V} (h : H a = some (.lst xs)) : Kd H (.ref a) "list" := Or.inr (Or.inr (Or.inr (Or.inr (Or.inl ⟨a, xs, rfl, h, rfl⟩))))
theorem kd_tup {H : Hp} {a : Addr} {xs : List V} (h : H a = some (.tup xs)) : Kd H (.ref a) "tuple" := Or.inr (Or.inr (Or.inr (Or.inr (Or.inr ⟨a, xs, rfl, h, rfl⟩))))
/-- no whole number from lo to hi -/
def NoNum (H : Hp) (x : V) (lo hi : Int) : Prop := (∃ n, x = .int n ∧ ¬ (lo ≤ n ∧ n ≤ hi)) ∨ ∃ t, Kd H x t ∧ t ≠ "int"
/-- no throws of s sides -/
def NoThr (H : Hp) (x : V) (s : Nat) : Prop := (∃ w : Wd, x = .str (S w) ∧ w.length ≤ 1000 ∧ ¬ ∀ c ∈ w, c ∈ lets s) ∨ ∃ t, Kd H x t ∧ t ≠ "str"
def NoWrd (H : Hp) (x : V) (s : Nat) : Prop := NoThr H x s ∨ x = .str (S [])
structure IsWrd (s : Nat) (w : Wd) : Prop where
  o : Over s w
  p : 0 < w.length
  l : w.length ≤ 900
theorem NoNum.mono {H H' : Hp} {x : V} {lo hi : Int} (h : NoNum H x lo hi) (e : Ex H H') : NoNum H' x lo hi := h.elim Or.inl fun ⟨t, k, n⟩ => Or.inr ⟨t, k.mono e, n⟩
theorem NoThr.mono {H H' : Hp} {x : V} {s : Nat} (h : NoThr H x s) (e : Ex H H') : NoThr H' x s := h.elim Or.inl fun ⟨t, k, n⟩ => Or.inr ⟨t, k.mono e, n⟩
theorem NoWrd.mono {H H' : Hp} {x : V} {s : Nat} (h : NoWrd H x s) (e : Ex H H') : NoWrd H' x s := h.elim (fun z => Or.inl (z.mono e)) Or.inr
theorem lets_le {s t c : Nat} (h : s ≤ t) (hc : c ∈ lets s) : c ∈ lets t := lets_mem.mpr (by have := lets_mem.mp hc; omega)
theorem NoThr.less {H : Hp} {x : V} {s t : Nat} (h : NoThr H x t) (hs : s ≤ t) : NoThr H x s := h.elim (fun ⟨w, e, l, n⟩ => Or.inl ⟨w, e, l, fun z => n fun c hc => lets_le hs (z c hc)⟩) Or.inr
theorem NoWrd.less {H : Hp} {x : V} {s t : Nat} (h : NoWrd H x t) (hs : s ≤ t) : NoWrd H x s := h.elim (fun z => Or.inl (z.less hs)) Or.inr
/-! ### values known by a word -/
def EvP (te : TE) (σ : L2.St) (H : Hp) (P : V → Hp → Prop) : Prop := ∀ H1, Ex H H1 → ∀ Q : VK, (∀ v H2, Ex H1 H2 → P v H2 → Q v H2) → te σ H1 Q
def EvB (ta : TA) (σ : L2.St) (H : Hp) (P : List V → Hp → Prop) : Prop := ∀ H1, Ex H H1 → ∀ Q : List V → Hp → Prop, (∀ vs H2, Ex H1 H2 → P vs H2 → Q vs H2) → ta σ H1 Q
section
variable {K : PySem.W.Frag} {σ : L2.St} {H : Hp} {ta : TA} {te tb : TE} {x : V} {P : List V → Hp → Prop} {D : Ends} {tz : TS}
theorem eb_nil : EvB tNil σ H (fun vs _ => vs = []) := fun H1 _ Q q => q [] H1 (Ex.refl H1) rfl
theorem eb_cons (h : Ev te σ H x) (hr : EvB ta σ H P) : EvB (tCons te ta) σ H (fun vs H' => ∃ r, vs = x :: r ∧ P r H') := fun H1 e Q q =>
  h H1 e _ fun H2 e2 => hr H2 (e.trans e2) _ fun r H3 e3 hp => q _ H3 (e2.trans e3) ⟨r, rfl, hp⟩
theorem eb_consL {xs : List V} (h : EvL te σ H xs) (hr : EvB ta σ H P) : EvB (tCons te ta) σ H (fun vs H' => ∃ p r, vs = .ref p :: r ∧ H' p = some (.lst xs) ∧ P r H') := fun H1 e Q q =>
  h H1 e _ fun p H2 _ e2 h2 => hr H2 (e.trans e2) _ fun r H3 e3 hp => q _ H3 (e2.trans e3) ⟨p, r, rfl, e3 _ _ h2, hp⟩
theorem eb_consU {xs : List V} (h : EvU te σ H xs) (hr : EvB ta σ H P) : EvB (tCons te ta) σ H (fun vs H' => ∃ p r, vs = .ref p :: r ∧ H' p = some (.tup xs) ∧ P r H') := fun H1 e Q q =>
  h H1 e _ fun p H2 _ e2 h2 => hr H2 (e.trans e2) _ fun r H3 e3 hp => q _ H3 (e2.trans e3) ⟨p, r, rfl, e3 _ _ h2, hp⟩
/-- [..][i] -/
theorem ep_ix {i : Int} {R : V → Hp → Prop} (h : EvB ta σ H P) (hb : Ev tb σ H (.int i)) (hR : ∀ vs H1, P vs H1 → vs.length ≤ 100 ∧ ∃ v, atI vs i = some v ∧ ∀ H2, Ex H1 H2 → R v H2) : EvP (tOp (rIxL K) (tLst ta) tb) σ H R := fun H1 e Q q =>
  h H1 e _ fun vs H2 e2 hp => by
    obtain ⟨hl, v, hv, hr⟩ := hR vs H2 hp
    exact ⟨sz_of (by omega), fun l hn => hb _ ((e.trans e2).trans (Ex.new hn)) _ fun H3 e3 => ⟨l, vs, i, v, rfl, rfl, sq_of (e3 _ _ upd_same), hv, q v H3 ((e2.trans (Ex.new hn)).trans e3) (hr H3 ((Ex.new hn).trans e3))⟩⟩
theorem q_asgP {i : Nat} {R : V → Hp → Prop} (h : EvP te σ H R) (k : ∀ v H1, Ex H H1 → R v H1 → tz D (σ.set i (some v)) H1) : tSeq (tAsg te (gName i)) tz D σ H := h H (Ex.refl H) _ fun v H1 e1 hr => k v H1 e1 hr
theorem q_asgG {g : TG} {R : V → Hp → Prop} (h : EvP te σ H R) (k : ∀ v H1, Ex H H1 → R v H1 → g v σ H1 (fun σ' H' => tz D σ' H')) : tSeq (tAsg te g) tz D σ H := h H (Ex.refl H) _ fun v H1 e1 hr => k v H1 e1 hr
end
/-! ### isinstance of the error that is caught -/
def rIsEc (K : PySem.W.Frag) (a : Addr) (cls : Value) (d : Option Addr) : List V → Hp → VK → Prop := fun xs H Q => ∃ (c : V) (cv : Value) (b : Bool) (D : Addr), xs = [.ref a, c] ∧ cls = .ref D ∧ d = none ∧ ExcC K D ∧ (∀ u, RelV c u → u = cv) ∧ PySem.W.kitOne K (.ref D) cv = some b ∧ Q (.bl b) H
theorem call_isEc {X : Cx} {a : Addr} {oe : Obj} {pn : List (Addr × Obj)} {cls : Value} {d : Option Addr} (hz : Zc cls d oe) (hf : ∃ vs, oe.data = .fields vs) : CallR (X.suite a ((a, oe) :: pn)) (.builtin "isinstance") (rIsEc X.K a cls d) := by
  intro pins s σ H xs us Q I r h
  obtain ⟨c, cv, b, D, rfl, rfl, rfl, C, hcv, e, q⟩ := h
  exact call_isE C hz hf pins s σ H _ us Q I r ⟨c, cv, b, rfl, hcv, e, q⟩
theorem ev_isE {K : PySem.W.Frag} {σ : L2.St} {H : Hp} {te : TE} {a C D : Addr} {b : Bool} (h : Ev te σ H (.ref a)) (X : ExcC K D) (hb : PySem.W.kitOne K (.ref D) (.ref C) = some b) : Ev (tCB (rIsEc K a (.ref D) none) (tCons te (tCons (tC (.ref C)) tNil))) σ H (.bl b) := fun H1 e Q q =>
  h H1 e _ fun H2 e2 => ⟨.ref C, .ref C, b, D, rfl, rfl, rfl, X, fun u r => r, hb, q H2 e2⟩
theorem ev_isEt {K : PySem.W.Frag} {σ : L2.St} {H : Hp} {te : TE} {a D : Addr} {t : String} {b : Bool} (h : Ev te σ H (.ref a)) (X : ExcC K D) (hb : PySem.W.kitOne K (.ref D) (.type t) = some b) : Ev (tCB (rIsEc K a (.ref D) none) (tCons te (tCons (tC (.ty t)) tNil))) σ H (.bl b) := fun H1 e Q q =>
  h H1 e _ fun H2 e2 => ⟨.ty t, .type t, b, D, rfl, rfl, rfl, X, fun u r => r, hb, q H2 e2⟩
/-! ### lists of bools that are equal -/
section
variable {K : PySem.W.Frag} {σ : L2.St} {H : Hp} {ta tb : TE}
abbrev bV (l : List Bool) : List V := l.map V.bl
theorem dpAll_bools (ns : List Bool) : DpAll K H (bV ns) (ns.map PyData.bool) := by
  induction ns with
  | nil => exact .nil
  | cons n ns ih => exact .cons (.bl n) ih
theorem shaped_bools (ns : List Bool) : SeqAt.shaped (.list (ns.map PyData.bool)) = true := by
  have h1 : ∀ l : List Bool, PyData.canLayAll0 (l.map PyData.bool) = true := fun l => by
    induction l with
    | nil => rfl
    | cons n l ih => simp [PyData.canLayAll0, PyData.canLay0, ih]
  have h2 : ∀ l : List Bool, PyData.depthAll (l.map PyData.bool) ≤ 1 := fun l => by
    induction l with
    | nil => simp [PyData.depthAll]
    | cons n l ih => simp [PyData.depthAll, PyData.depth]; exact ih
  unfold SeqAt.shaped
  rw [Bool.and_eq_true, decide_eq_true_eq]
  refine ⟨by simp only [PyData.canLay0]; exact h1 ns, ?_⟩
  have := h2 ns
  simp only [PyData.depth]
  omega
theorem eqv_bools (ns : List Bool) : PyData.eqv (.list (ns.map PyData.bool)) (.list (ns.map PyData.bool)) = true :=
  SeqAt.eqv_refl _ (SeqAt.canLay_of_shaped (shaped_bools ns))
theorem rv_neLB {p q : Addr} {ns : List Bool} (h1 : SqL K H p (bV ns)) (h2 : SqL K H q (bV ns)) : RV (rNeD K) (.ref p) (.ref q) H (.bl false) := fun H1 e Q k =>
  ⟨.list (ns.map .bool), .list (ns.map .bool), .lst (ex_l e h1) (dpAll_bools ns), .lst (ex_l e h2) (dpAll_bools ns), shaped_bools ns, shaped_bools ns, by rw [eqv_bools]; exact k H1 (Ex.refl H1)⟩
end
end Fw

set_option Elab.async false
set_option linter.all false
set_option maxRecDepth 100000
set_option maxHeartbeats 4000000
namespace Fw
open PySem PySem.Spec PyProof.Rows L2 Evl
/-! ### sets of texts: the members, and a table that can be walked -/
def keyT (e : Int × Value) : Str := svS e.2
structure TabT (w : World) (es : Array (Int × Value)) (t : SetTable) (ks : List Str) : Prop where
  el : ∀ e ∈ es.toList, ∃ k u, e = (hashStr w k, Value.str k u)
  nd : (es.toList.map keyT).Nodup
  mem : ∀ k, k ∈ es.toList.map keyT ↔ k ∈ ks
  sz : es.size ≤ ks.length
  bd : es.size < scanBound
  fit : t.fits es.size = true
  ris : Ris t.place.toList
  led : w.params.followText "set-order" = true ∨ t.led = true
def TSet (w : World) (h : Heap) (a : Addr) (ks : List Str) : Prop := ∃ o es ep t, h.get? a = some o ∧ o.ExactSet ∧ o.data = .set es ep t ∧ TabT w es t ks
theorem TSet.stay {w : World} {h h' : Heap} {a : Addr} {ks : List Str} (R : TSet w h a ks) (k : ∀ o, h.get? a = some o → h'.get? a = some o) : TSet w h' a ks :=
  let ⟨o, es, ep, t, ho, r⟩ := R
  ⟨o, es, ep, t, k o ho, r⟩
abbrev noSet (w : World) : Obj := { cls := .type "set", dict := none, data := .set #[] 0 (.fresh 0 0 (!w.params.followText "set-order")) }
theorem tset_nil {w : World} {h : Heap} {a : Addr} (ho : h.get? a = some (noSet w)) : TSet w h a [] := by
  refine ⟨_, #[], 0, _, ho, ⟨rfl, rfl, rfl⟩, rfl, ⟨fun e he => by simp at he, by simp, fun k => by simp, Nat.le_refl _, by decide, rfl, List.Pairwise.nil, ?_⟩⟩
  show _ ∨ (!w.params.followText "set-order") = true
  cases w.params.followText "set-order"
  · exact Or.inr rfl
  · exact Or.inl rfl
section
variable {P : Program} {w : World} {A : Around} {E : Value → Shared → Prop} {s : Shared} {a : Addr} {ks : List Str} {es : Array (Int × Value)} {t : SetTable}
theorem TabT.elems (T : TabT w es t ks) : ElemsOf (PySem.strKind P w) es.toList := fun e he => by
  obtain ⟨k, u, rfl⟩ := T.el e he
  exact ⟨⟨k, strKind_is P w k u, rfl⟩, rfl⟩
theorem TabT.has (T : TabT w es t ks) (k : Str) : k ∈ ks ↔ ∃ e ∈ es.toList, (PySem.strKind P w).is k e.2 = true := by
  rw [← T.mem k, List.mem_map]
  have one : ∀ e ∈ es.toList, (keyT e = k ↔ (PySem.strKind P w).is k e.2 = true) := fun e he => by
    obtain ⟨j, u, rfl⟩ := T.el e he
    refine ⟨fun q => ?_, fun q => ?_⟩
    · have q : j = k := q
      subst q
      exact strKind_is P w j u
    · exact (PySem.strKind P w).inj (.str j u) j k (strKind_is P w j u) q
  exact ⟨fun ⟨e, he, q⟩ => ⟨e, he, (one e he).mp q⟩, fun ⟨e, he, q⟩ => ⟨e, he, (one e he).mpr q⟩⟩
theorem TabT.relay (T : TabT w es t ks) (n : Nat) : TabT w (relayAll t es n).1 (relayAll t es n).2.1 ks := by
  have pm := relayAll_perm t es n
  have ft := relayAll_fits t es n
  have rs := relayAll_ris t es n
  have ld := relayAll_led t es n
  have e : (relayAll t es n).1.size = es.size := by rw [← Array.length_toList, pm.length_eq, Array.length_toList]
  exact ⟨fun x hx => T.el x (pm.mem_iff.mp hx), (pm.map keyT).nodup_iff.mpr T.nd, fun k => (pm.map keyT).mem_iff.trans (T.mem k), by rw [e]; exact T.sz, by rw [e]; exact T.bd, ft, rs, T.led.imp id fun z => by rw [ld]; exact z⟩
theorem TabT.lay (T : TabT w es t ks) {k : Str} (u : Tok) (hk : k ∉ ks) (room : ks.length + 1 < scanBound) : TabT w (layNew t es (hashStr w k) (.str k u)).1 (layNew t es (hashStr w k) (.str k u)).2.1 (ks ++ [k]) := by
  have pm := layNew_perm t es (hashStr w k) (.str k u)
  rw [Array.toList_push] at pm
  have pc := pm.trans (List.perm_append_singleton _ _)
  have pk := pc.map keyT
  have e : (layNew t es (hashStr w k) (.str k u)).1.size = es.size + 1 := by rw [← Array.length_toList, pc.length_eq, List.length_cons, Array.length_toList]
  have hz := T.sz
  refine ⟨fun x hx => ?_, pk.nodup_iff.mpr (List.nodup_cons.mpr ⟨fun z => hk ((T.mem k).mp z), T.nd⟩), fun j => ?_, by rw [e, List.length_append]; exact Nat.succ_le_succ hz, by rw [e]; omega, layNew_fits t es _ _, layNew_ris t es _ _ T.ris, T.led.imp id fun z => by rw [layNew_led]; exact z⟩
  · rcases List.mem_cons.mp (pc.mem_iff.mp hx) with z | z
    · exact ⟨k, u, z⟩
    · exact T.el x z
  · rw [pk.mem_iff, List.map_cons, List.mem_cons, T.mem j, List.mem_append, List.mem_singleton]
    exact Or.comm
theorem TabT.off (T : TabT w es t ks) : TabT w es { t with plain := false } ks := ⟨T.el, T.nd, T.mem, T.sz, T.bd, SetTable.fits_plain_off T.fit, T.ris, T.led⟩
/-- what is stored at last -/
theorem tset_tail {g : Bool → Sem Unit} (hg : ∀ (b : Bool) (s₁ : Shared) (Q' : Unit → Shared → Prop), Q' () s₁ → wpAny (model P w) A (g b) Q' E s₁) {o : Obj} {es0 : Array (Int × Value)} {ep : Nat} {t0 : SetTable} (ho : s.heap.get? a = some o) (hx : o.ExactSet) (hd : o.data = .set es0 ep t0)
    (T : TabT w es t ks) {gone : Bool} {R : Option Bool → Shared → Prop} (hR : ∀ h', Heap.SameBut a s.heap h' → TSet w h' a ks → R (some true) { s with heap := h' }) :
    wpAny (model P w) A (do
        storeSet a es t
        if (!gone && t.tooFull) = true then do
            g (relayAll t es (SetTable.grown es.size)).2.2
            storeSet a (relayAll t es (SetTable.grown es.size)).1 (relayAll t es (SetTable.grown es.size)).2.1
            pure (some true)
          else pure (some true)) R E s := by
  have ho1 := store_at (es' := es) (t' := t) ho hd
  have sb := Heap.SameBut.update s.heap a (Obj.putSet es t)
  refine wpAny_bind (wpAny_storeSet_of ho hd ?_ (fits_of_scanBound T.bd))
  by_cases c : (!gone && t.tooFull) = true
  · rw [if_pos c]
    have T2 := T.relay (SetTable.grown es.size)
    refine wpAny_bind (hg _ _ _ (wpAny_bind (wpAny_storeSet_of ho1 rfl (wpAny_pure (hR _ (sb.trans (Heap.SameBut.update _ a _)) ?_)) (fits_of_scanBound T2.bd))))
    exact ⟨_, _, _, _, store_at ho1 rfl, hx, rfl, T2⟩
  · rw [if_neg c]
    exact wpAny_pure (hR _ sb ⟨_, _, _, _, ho1, hx, rfl, T⟩)
/-- one text more -/
theorem tset_add {k : Str} {u : Tok} {Q : Bool → Shared → Prop} (R : TSet w s.heap a ks) (room : ks.length + 1 < scanBound) (hQ : ∀ b h', Heap.SameBut a s.heap h' → TSet w h' a (ks ++ [k]) → Q b { s with heap := h' }) :
    wpAny (model P w) A (setAddHashed a (.str k u) (hashStr w k)) Q E s := by
  obtain ⟨o, es, ep, t, ho, hx, hd, T⟩ := R
  have hel : ElemsOf (PySem.strKind P w) es.toList := T.elems
  have hsc : (Value.str k u).scannable = true := rfl
  have idle : ∀ (b : Bool) (s₁ : Shared) (Q' : Unit → Shared → Prop), Q' () s₁ → wpAny (model P w) A (match b with | true => rule "set.scan.the-table-gave-way" | false => pure ()) Q' E s₁ := fun b s₁ Q' q => by
    cases b
    · exact wpAny_pure q
    · exact wpAny_rule q
  unfold setAddHashed setAddHashedIn
  refine wpAny_holding (wpAny_bind (wpAny_setState_of ho hd T.fit ?_))
  dsimp only
  rw [byScan_of hsc T.bd hel, if_pos rfl]
  unfold setAddByScan
  refine wpAny_bind (wpAny_bind (wpAny_rule (wpAny_bind (wpAny_setScan_of (knd := PySem.strKind P w) (strKind_is P w k u) ho hd T.fit hel ?_))))
  cases hf : List.findIdx? (fun e => (PySem.strKind P w).is k e.2) es.toList with
  | some j =>
    obtain ⟨hj, pj, _⟩ := List.findIdx?_eq_some_iff_getElem.mp hf
    have hk : k ∈ ks := (T.has (P := P) k).mpr ⟨_, List.getElem_mem hj, pj⟩
    refine wpAny_pure (wpAny_pure (hQ _ s.heap (Heap.SameBut.refl a s.heap) ⟨o, es, ep, t, ho, hx, hd, T.el, T.nd, fun i => ?_, by rw [List.length_append]; have := T.sz; omega, T.bd, T.fit, T.ris, T.led⟩))
    rw [T.mem i, List.mem_append, List.mem_singleton]
    exact ⟨Or.inl, fun z => z.elim id fun e => by rw [e]; exact hk⟩
  | none =>
    have hk : k ∉ ks := fun z => by
      obtain ⟨e, he, q⟩ := (T.has (P := P) k).mp z
      have := List.findIdx?_eq_none_iff.mp hf e he
      rw [q] at this
      cases this
    have T1 := T.lay u hk room
    dsimp only
    show wpAny _ _ (_ >>= _) _ _ _
    have e0 : (PySem.strKind P w).hash k = hashStr w k := rfl
    generalize layNew t es (hashStr w k) (.str k u) = Z at T1 ⊢
    obtain ⟨es1, t1, gone, gave⟩ := Z
    dsimp only at T1 ⊢
    refine wpAny_bind (idle _ _ _ ?_)
    split
    · refine wpAny_bind ?_
      rw [hashByValue_scannable 8 hsc]
      refine wpAny_pure (tset_tail (ks := ks ++ [k]) idle ho hx hd ?_ fun h' sb R => ?_)
      · split
        · exact T1
        · exact T1.off
      · exact wpAny_pure (hQ _ h' sb R)
    · refine wpAny_bind (wpAny_pure ?_)
      rw [if_pos rfl]
      exact tset_tail idle ho hx hd T1 fun h' sb R => wpAny_pure (hQ _ h' sb R)
end
theorem are_at : ∀ {vs : List Value} {ss : List Str}, StrsAre vs ss → ∀ (i : Nat) (v : Value), vs[i]? = some v → ∃ k u, ss[i]? = some k ∧ v = .str k u
  | _, _, .nil, i, v, e => by simp at e
  | _, _, .cons n t r, 0, v, e => ⟨n, t, rfl, (Option.some.inj e).symm⟩
  | _, _, .cons n t r, i + 1, v, e => are_at r i v (by simpa using e)
theorem are_of : ∀ {ys : List Str} {us : List Value}, Vals (ys.map V.str) us → StrsAre us ys
  | [], _, .nil => .nil
  | y :: ys, _, .cons h r => by
    obtain ⟨t, rfl⟩ := h
    exact .cons y t (are_of r)
/-! ### set(list of texts) -/
section
variable {P : Program} {w : World} {A : Around} {E : Value → Shared → Prop} {s : Shared}
theorem tset_loop {I : Addr} {fp wr : List Addr} {G : Array GenState → Array GenState → Prop} {n : Nat} {Pv : Nat → Value → Prop} {St : Nat → Shared → Prop} {R : Result → Shared → Prop} (W : WalksS P w A.in1 I fp wr G n Pv St) (S : Addr) (hS : S ∉ fp) (ks : List Str)
    (hn : n = ks.length) (hb : ks.length + 1 < scanBound) (hv : ∀ i v, Pv i v → ∃ k u, ks[i]? = some k ∧ v = .str k u) (hR : ∀ s0 s1, Moved (S :: wr) G s0 s1 → TSet w s1.heap S ks → s0 = s → R (.ok (.ret .none)) s1) :
    ∀ (k i : Nat) (s' : Shared), n - i = k → i ≤ n → St i s' → TSet w s'.heap S (ks.take i) → (∀ s1, Moved (S :: wr) G s' s1 → Moved (S :: wr) G s s1) → codeAny (model P w) A (.builtin "set.update.loop" ⟨[.ref S, .ref I], []⟩) R s' := by
  have hw : S ∉ wr := fun z => hS (W.sub _ z)
  have sub : ∀ b ∈ wr, b ∈ S :: wr := fun b z => List.mem_cons_of_mem _ z
  intro k
  induction k with
  | zero =>
    intro i s' hk hi st T far
    have e : i = n := by omega
    subst e
    refine codeAny_builtin F.entry_set_update_loop ?_
    rw [Around.under_plainId F.plain_set_update_loop _]
    refine wpAny_bind (W.done s' _ _ st fun s1 m => wpAny_pure ?_)
    rw [List.take_of_length_le (by omega)] at T
    exact hR s s1 (far s1 (m.mono sub)) (T.stay fun o q => m.heap S o hw q) rfl
  | succ k ih =>
    intro i s' hk hi st T far
    refine codeAny_builtin F.entry_set_update_loop ?_
    rw [Around.under_plainId F.plain_set_update_loop _]
    refine wpAny_bind (W.item i s' _ _ (by omega) st fun v s1 pv st1 m => ?_)
    obtain ⟨z, u, hz, rfl⟩ := hv i v pv
    have T1 : TSet w s1.heap S (ks.take i) := T.stay fun o q => m.heap S o hw q
    refine wpAny_bind (wpAny_holding ?_)
    unfold setAdd
    refine wpAny_holding (wpAny_bind ((PySem.strKind P w).pyHash (strKind_is P w z u) ?_))
    refine tset_add (s := { s1 with toks := s1.toks + 1 }) T1 (by rw [List.length_take]; omega) fun b h2 sb T2 => ?_
    rw [← take_more hz] at T2
    refine wpAny_pure ⟨plainId_quiet F.plain_set_update_loop _, ih (i + 1) _ (by omega) (by omega) (W.frame _ s1 _ _ st1 (Nat.le_succ _) fun b hb o q => ?_) T2 fun s2 m2 => far s2 (Moved.trans W.gtrans ((m.mono sub).then_heap (Nat.le_succ _) fun b o hb q => ?_) m2)⟩
    · rw [sb.2 b fun (z : b = S) => hS (z ▸ hb)]
      exact q
    · rw [sb.2 b fun (z : b = S) => hb (by rw [z]; exact List.mem_cons_self)]
      exact q
set_option maxHeartbeats 3200000 in
theorem call_set_texts {l : Addr} {items : Array Value} (ks : List Str) {Q : Value → Shared → Prop} (hh : A.handled = none) (hl : s.heap.IsList l items) (hi : StrsAre items.toList ks) (hb : ks.length + 1 < scanBound)
    (h : ∀ (h' : Heap) (tk : Nat), TSet w h' s.heap.objs.size ks → (∀ b o, s.heap.get? b = some o → h'.get? b = some o) → Q (.ref s.heap.objs.size) { s with heap := h', toks := tk }) : wpAny (model P w) A (call (.type "set") [.ref l]) Q E s := by
  have hn : items.size = ks.length := by
    have q := StrsAre.len_eq hi
    rw [Array.length_toList] at q
    exact q
  obtain ⟨c, tl, hmro⟩ := F.called_set.mro
  have hmade := F.called_set.made
  have hsub := F.called_set.sub
  refine wpAny_call (codeAny_of_tree ?_)
  show wpAny _ _ (callAny (.type "set") _) _ _ _
  refine wpAny_pure ⟨Code.quiet_builtin _ (by decide +kernel), codeAny_builtin F.entry_type_call ?_⟩
  rw [Around.under_plain (weight_type_call_type "set" [.ref l] []) rfl]
  have h1 := F.called_set.notType
  have h2 := F.called_set.canCreate
  have hct := F.typeCall_set_1 (.ref l)
  repeat (any_goals (first | assumption | wp_step))
  refine codeAny_mono (code_set_led1 (.ref l) (E := E) (Q₁ := fun v s1 => v = .ref s.heap.objs.size ∧ s1 = { s with heap := s.heap.push (noSet w) }) ⟨rfl, rfl⟩) fun r s1 hr => ?_
  cases r with
  | error e => exact hr
  | ok fl =>
    cases fl with
    | next => exact hr.elim
    | brk => exact hr.elim
    | cont => exact hr.elim
    | ret v =>
      obtain ⟨rfl, rfl⟩ := hr
      have hS : (s.heap.push (noSet w)).get? s.heap.objs.size = some (noSet w) := Heap.get?_push_size _ rfl
      have hT : Shared.TypeIs { s with heap := s.heap.push (noSet w) } (.ref s.heap.objs.size) "set" := ⟨_, hS, rfl⟩
      have hli := F.called_set.init.lookup
      have hbi := F.called_set.init.bind (.ref s.heap.objs.size)
      repeat (any_goals (first | assumption | wp_step))
      refine codeAny_mono (codeAny_call_builtin (R := wants (fun r s2 => r = .none ∧ ∃ h' tk, s2 = { s with heap := h', toks := tk } ∧ TSet w h' s.heap.objs.size ks ∧ ∀ b o, s.heap.get? b = some o → h'.get? b = some o) E) F.called_set.init.plain F.entry_set_init (check_set_init_1 hT ?_)) fun r2 s2 hr2 => ?_
      · obtain ⟨ol, hol, hcl, nl, hdl⟩ := hl
        obtain ⟨oc, od, odt, osl⟩ := ol
        simp only at hcl hdl
        subst hcl
        subst hdl
        have hol' : (s.heap.push (noSet w)).get? l = some { cls := .type "list", dict := od, data := .seq items nl, slots := osl } := Heap.get?_push_of_some _ hol
        have hsls := F.sub_list_set
        have hslf := F.sub_list_frozenset
        have hne : (Value.type "list" == Value.type "dict") = false := by decide
        have hl1 : (s.heap.push (noSet w)).IsList l items := ⟨_, hol', rfl, nl, rfl⟩
        unfold Builtin.«set.__init__» noKeywords Builtin.Frozenset.updateFrom
        generalize hPI : pyIter = PI
        wp_walk
        subst hPI
        refine wpAny_pyIter_list hl1 (wpAny_bind (wpAny_runValue ?_))
        have lt : l < s.heap.objs.size := Heap.lt_size hol
        have hh3 : A.in1.in1.in1.handled = none := by simp [hh]
        have sz : (s.heap.push (noSet w)).objs.size = s.heap.objs.size + 1 := size_push' _ _
        have nI : l ≠ (s.heap.push (noSet w)).objs.size := by rw [sz]; exact Nat.ne_of_lt (Nat.lt_succ_of_lt lt)
        have nS : s.heap.objs.size ∉ [(s.heap.push (noSet w)).objs.size, l] := by
          rw [sz]
          intro z
          rcases List.mem_cons.mp z with z | z
          · exact absurd z (Nat.ne_of_lt (Nat.lt_succ_self _))
          · exact absurd (List.mem_singleton.mp z) (Nat.ne_of_gt lt)
        refine tset_loop ((Walks.list hh3 _ l nI items).toS) s.heap.objs.size nS ks hn hb (fun i v hv => ?_) (fun s0 s3 m T e => ?_) (items.size - 0) 0 _ rfl (Nat.zero_le _) ⟨⟨_, Heap.get?_push_size _ rfl, rfl, rfl⟩, hl1.push _⟩ ?_ fun _ m => m
        · exact are_at hi i v (by rw [Array.getElem?_toList]; exact hv)
        · subst e
          obtain ⟨h3, g3, d3, k3, o3⟩ := s3
          cases (show g3 = s.gens from m.gens)
          cases (show d3 = s.drawn from m.drawn)
          cases (show o3 = s.os from m.os)
          show wpAny _ _ _ _ _ _
          refine wpAny_pure ?_
          show wpAny _ _ (ret Value.none) _ _ _
          refine wpAny_pure ⟨rfl, h3, k3, rfl, T, fun b o q => ?_⟩
          have hlt : b < s.heap.objs.size := Heap.lt_size q
          refine m.heap b o (fun z => ?_) (Heap.get?_push_of_some _ (Heap.get?_push_of_some _ q))
          rcases List.mem_cons.mp z with z | z
          · exact absurd z (Nat.ne_of_lt hlt)
          · have z := List.mem_singleton.mp z
            rw [sz] at z
            exact absurd z (Nat.ne_of_lt (Nat.lt_succ_of_lt hlt))
        · rw [List.take_zero]
          exact tset_nil (Heap.get?_push_of_some _ hS)
      · cases r2 with
        | error e => exact hr2
        | ok fl2 =>
          cases fl2 with
          | next => exact hr2.elim
          | brk => exact hr2.elim
          | cont => exact hr2.elim
          | ret r =>
            obtain ⟨rfl, h', tk, rfl, T, keep⟩ := hr2
            repeat (any_goals (first | assumption | wp_step))
            exact h _ _ T keep
end
/-! ### over the layer -/
def SetT (w : World) (a : Addr) (ks : List Str) : HO := .ext fun h => TSet w h a ks
section
variable {X : Cx}
abbrev rSetT (K : PySem.W.Frag) (w : World) : List V → Hp → VK → Prop := fun xs H Q => ∃ (l : Addr) (ks : List Str), xs = [.ref l] ∧ SqL K H l (ks.map V.str) ∧ ks.length ≤ 4000 ∧ ∀ p, H p = none → Q (.ref p) (upd H p (SetT w p ks))
theorem cr_setX (hc : X.calm = true) : CallR X (.type "set") (rSetT X.K X.w) := by
  intro pins s σ H xs us Q I r q
  obtain ⟨l, ks, rfl, hl, hz, q⟩ := q
  obtain ⟨u, rfl, rx⟩ := vals1 r
  cases rx
  obtain ⟨its, rv, pl, _⟩ := I.list hl
  have hS : StrsAre its ks := are_of rv
  refine call_set_texts (items := its.toArray) ks (by exact I.ok.hd hc) pl.isList (by simpa using hS) (by show ks.length + 1 < 4096; omega) fun h' tk T keep => ?_
  have ⟨o, _, _, _, ho, _⟩ := T
  exact ⟨.ref _, upd H s.heap.objs.size (SetT X.w s.heap.objs.size ks), I.laid (t' := tk) keep (Nat.le_refl _) (show ObjOk X.prog X.w _ _ _ (SetT X.w _ ks) from ⟨T, ⟨o, ho⟩, fun h1 h2 p k => TSet.stay p k⟩), rfl, q _ (I.hok.fresh (Nat.le_refl _))⟩
abbrev rSortT (w : World) : List V → Hp → VK → Prop := fun xs H Q => ∃ (a : Addr) (ks : List Str), xs = [.ref a] ∧ H a = some (SetT w a ks) ∧ ∀ ys p, ys.Nodup → (∀ k, k ∈ ys ↔ k ∈ ks) → RiseS ys → H p = none → Q (.ref p) (upd H p (.lst (ys.map V.str)))
theorem call_sortedTS (hc : X.calm = true) : CallR X (.builtin "sorted") (rSortT X.w) := by
  intro pins s σ H xs us Q I r q
  obtain ⟨a, ks, rfl, ha, q⟩ := q
  obtain ⟨u, rfl, rx⟩ := vals1 r
  cases rx
  obtain ⟨o, es, ep, t, ho, hx, hd, T⟩ := (show TSet X.w s.heap a ks from (I.hok a _ ha).1)
  refine Calls.call_function_entry PyProof.Rows.kind_sorted PyProof.Rows.plain_sorted PyProof.Rows.entry_sorted (PyProof.Rows.args_sorted1 _) ?_
  unfold Builtin.«sorted»
  refine wpAny_bind (m := checkCount "sorted" 1 1 _) (wpAny_pure (wpAny_bind (collect_set (A := X.A.in1) (I.ok.hd hc) ⟨o, ho, hx.1, hd⟩ T.fit T.bd T.ris T.led fun s1 vs keep hz g1 o1 pm => ?_)))
  have hS : StrsAre vs (vs.map svS) := sv_are fun v hv => by
    obtain ⟨e, he, rfl⟩ := List.mem_map.mp (pm.mem_iff.mp hv)
    obtain ⟨k, u, rfl⟩ := T.el e he
    exact ⟨k, u, rfl⟩
  have pk : (vs.map svS).Perm (es.toList.map keyT) := by
    have := pm.map svS
    rw [List.map_map] at this
    exact this
  have hlen : vs.length = es.size := by rw [pm.length_eq, List.length_map, Array.length_toList]
  have hsz : vs.length ≤ sizeLine := by rw [hlen]; exact fits_of_scanBound T.bd
  have I1 : Inv X pins σ H s1 := by
    obtain ⟨h1, gg, dd, tk, oo⟩ := s1
    cases (show gg = s.gens from g1)
    cases (show oo = s.os from o1)
    exact I.call (ch := []) (Un.kept keep) (I.hok.kept keep) I.bare (fun _ z => nomatch z)
  refine wpAny_bind (wpAny_newList ?_ hsz)
  have hoL : (s1.heap.push (seqObj "list" vs.toArray 0)).get? s1.heap.objs.size = some (seqObj "list" vs.toArray 0) := Heap.get?_push_size _ rfl
  refine wpAny_bind (wpAny_holding (wpAny_call_entry PyProof.Rows.slot_list_sort ⟨_, hoL, rfl⟩ PyProof.Rows.entry_list_sort
    (SrtO.list_sort_ord (s := { s1 with heap := s1.heap.push (seqObj "list" vs.toArray 0) }) swo_sv hoL hsz (fun h2 => sv_sortable hS h2) fun out h1 h2 => ⟨_, rfl, ?_⟩) (PyProof.Rows.args_list_sort _)))
  obtain ⟨g1', g2, g3⟩ := sv_out hS h1 h2
  obtain ⟨e', he'⟩ := PyProof.Rows.sortedHeap_at (vs := vs) (out := out.toArray) hoL
  have pall := g2.trans pk
  have hz2 : ((out.map svS).map V.str).length ≤ sizeLine := by rw [List.length_map, g2.length_eq, List.length_map]; exact hsz
  refine wpAny_pure ⟨_, rfl, .ref s1.heap.objs.size, upd H s1.heap.objs.size (.lst ((out.map svS).map V.str)), I1.laid (t' := s1.toks) (fun b u e => ?_) (Nat.le_refl _)
    (show ObjOk X.prog X.w _ _ _ (.lst ((out.map svS).map V.str)) from ⟨hz2, out, e', vals_of_strs g1', he'⟩), rfl, q _ _ (pall.nodup_iff.mpr T.nd) (fun k => (pall.mem_iff).trans (T.mem k)) g3 (I1.hok.fresh (Nat.le_refl _))⟩
  have hb : b < s1.heap.objs.size := Heap.lt_size e
  rw [PyProof.Rows.sortedHeap_old (Nat.ne_of_lt hb) (by rw [size_push']; exact Nat.lt_succ_of_lt hb)]
  exact Heap.get?_push_of_some _ e
end
end Fw

set_option Elab.async false
set_option linter.all false
set_option maxRecDepth 100000
set_option maxHeartbeats 4000000
namespace Fw
open PySem PySem.Spec PyProof.Rows L2 Evl
/-! ### raising defs whose errors are known to have no context -/
structure CrN (P : Program) (w : World) (K : PySem.W.Frag) (mg : Str → Option Value) (base : Heap) (k : Nat) (x : Str) (sp : Sp) : Prop where
  ex : ∃ (f : Addr) (fd : FuncData) (ps : List Str), FnOk P w K mg base (L2N.CX P w) k f fd ps sp ∧ mg x = some (.ref f) ∧ PySem.W.keepIn K (.ref f) = true ∧ Binds K fd ps []
section
variable {X : Cx} {k j : Nat} {x m : Str} {sp : Sp} {p p2 pos pos2 : Pos} {e : Expr} {es : List Expr} {t : TA} {W : WX} {C : Addr}
theorem pe_crN (c : CrN X.prog X.w X.K X.mg X.base k x sp) (tk : L2N.Takes X W) (hr : Room j X.A) (ha : PA X (e :: es) t) (hk : k ≤ j := by decide) (hg : Gl X x := by rfl)
    (hdb : (x == ("__debug__" : Str)) = false := by decide) (he : starEach (e :: es) X.env = (false, eval e X.env) :: starEach es X.env := by rfl) (hpl : (backTo pos (starEach es X.env)).any (·.1) = false := by rfl) :
    PE X (.Call (.Name x p) (e :: es) [] pos) (tCallS sp (WE W) t) := by
  obtain ⟨f, fd, ps, F, hm, kp, b⟩ := c.ex
  exact pe_callS F (hr.mono hk) hg hm kp b (fun σ => L2N.passAt tk σ) ha hdb he hpl
theorem ps_rxN {i : Nat} (c : XC X.K X.mg x C) (hc : X.calm = true) (tk : L2N.Takes X W) (hg : Gl X x := by rfl) (hdb : (x == ("__debug__" : Str)) = false := by decide) :
    PS X (.Raise (some (.Call (.Name x p) [.Constant (.str m) i p2] [] pos)) none pos2) (tRx W C) :=
  L2N.ps_raise hc tk (L2N.pmk_own PySem.F.excBase_ValueError c.q c.g c.k (raises_own c.b c.t) hg hdb)
theorem takes0N : L2N.Takes X (fun _ _ _ _ => False) := fun u s' x => by
  obtain ⟨_, _, _, _, _, _, _, _, _, _, _, _, _, _, _, _, z⟩ := x
  exact z.elim
end
section
variable {P : Program} {w : World} {K : PySem.W.Frag} {mg : Str → Option Value} {base : Heap}
theorem _root_.L2.Fun.okN {x qual : Str} {st : Stmt} {f : Addr} {fd : FuncData} {N ps : List Str} {k : Nat} {sp : Sp} (F : L2.Fun K x qual st f fd) (S : FnScope N ps (defScope st)) (len : ∀ vs H Q E, sp vs H Q E → vs.length = ps.length)
    (body : ∀ (cdv : Value) (A : Around) (outer : List Env) (s : Shared) (H : Hp) (vs : List V) (Q : VK) (E : XK), Room k (A.deeper (envOfC qual (defScope st) s.heap.objs.size f cdv)) → sp vs H Q E →
      ∃ t, PSs (cxOf (L2N.CX P w) P w K mg base N qual (defScope st) f cdv A outer s H E) (defBody st) t ∧ t { nx := fun _ H' => Q .non H', rt := Q } (start N vs) H) : FnOk P w K mg base (L2N.CX P w) (k + 1) f fd ps sp := by
  obtain ⟨_, _, _, _, _, _, _, _, _, rfl, lk, hcd⟩ := F.ex
  exact fn_of lk hcd S len fun A outer s H vs Q E hr hsp => body _ A outer s H vs Q E hr hsp
end
/-! ### any(list of bools) while an error is handled -/
section
variable {prog : Program} {w : World} {A : Around} {E : Value → Shared → Prop} {s : Shared}
theorem list_end_hot {it l x1 : Addr} {i : Nat} {items : Array Value} {Q : Option Value → Shared → Prop} (hot : HotX.HotAt A x1 s.heap) (n1 : x1 ≠ it) (hit : s.heap.IsListIter it l i) (hl : s.heap.IsList l items) (hx : items[i]? = none)
    (hQ : ∀ h', (∀ b o, b ≠ it → s.heap.get? b = some o → h'.get? b = some o) → Q none { s with heap := h' }) : wpAny (model prog w) A (pyNext (.ref it)) Q E s := by
  obtain ⟨hh, o1, vs1, h1, d1, c1⟩ := hot
  obtain ⟨o, ho, hc, hd⟩ := id hit
  obtain ⟨ol, hol, _, nl, hdl⟩ := hl
  unfold pyNext
  refine wpAny_bind (wpAny_attempt (wpAny_callSpecial?_slot (name := Str.ofString "__next__") hit.typeIs slot_listiter_next (wpAny_call_entry slot_listiter_next hit.typeIs entry_listiter_next ?_ (args_listiter_next _))))
  show wpAny _ _ (field (.ref it) 0 >>= _) _ _ s
  refine wpAny_bind (wpAny_field ho hd (x := .ref l) rfl ?_)
  show wpAny _ _ (if (Value.ref l == Value.none) = true then _ else _) _ _ s
  rw [if_neg (show ¬ ((Value.ref l == Value.none) = true) from Bool.false_ne_true)]
  show wpAny _ _ (field (.ref it) 1 >>= _) _ _ s
  refine wpAny_bind (wpAny_field ho hd (x := .int i 0) rfl ?_)
  show wpAny _ _ (seqItems? (.ref l) >>= _) _ _ s
  refine wpAny_bind (wpAny_seqItems hol hdl ?_)
  simp only [Int.toNat_natCast, hx]
  refine wpAny_bind (wpAny_rule (wpAny_bind (wpAny_setField ho hd (by simp) ?_)))
  show wpAny _ _ (newExc (.type "StopIteration") [] >>= _) _ _ _
  refine wpAny_bind ?_
  simp only [newExc, newTuple]
  refine wpAny_bind (wpAny_newObj_type ?_ (by size_fits))
  refine wpAny_bind (m := firstArgMember _ _) (wpAny_of_eq (a := Value.none) (by first | rfl | (simp only [firstArgMember]; rfl)) ?_)
  refine wpAny_newObj_type ?_ (by size_fits)
  have k1 := (Heap.get?_update_other s.heap (Obj.mapFields (·.setIfInBounds 0 Value.none)) (Ne.symm n1)).trans h1
  refine HotX.raiseNew_hot ⟨hh, o1, vs1, Heap.get?_push_of_some _ (Heap.get?_push_of_some _ k1), d1, c1⟩ (Nat.ne_of_lt (Heap.lt_size (Heap.get?_push_of_some _ k1))) (Heap.get?_push_size _ rfl) rfl (by first | (simp; done) | (simp; omega) | (simp only [Array.size_append]; simp; omega)) ?_
  refine wpAny_bind (wpAny_isInstance (T := "StopIteration") (b := true) ⟨_, Heap.get?_update_self _ (Heap.get?_push_size _ rfl) rfl, rfl⟩ isSubtype_stop ?_)
  refine wpAny_pure (hQ _ fun b o hb e => ?_)
  have k2 := (Heap.get?_update_other s.heap (Obj.mapFields (·.setIfInBounds 0 Value.none)) (Ne.symm hb)).trans e
  rw [Heap.get?_update_other _ _ (Nat.ne_of_gt (Heap.lt_size (Heap.get?_push_of_some _ k2)))]
  exact Heap.get?_push_of_some _ (Heap.get?_push_of_some _ k2)
theorem walks_hot {x1 : Addr} {o1 : Obj} {vs1 : Array Value} (hh : A.handled = some (.ref x1)) (d1 : o1.data = .fields vs1) (c1 : vs1[2]? = some .none) (I l : Addr) (n1 : l ≠ I) (n2 : x1 ≠ I) (items : Array Value) :
    Walks prog w A I [I, l, x1] [I] items.size (fun i v => items[i]? = some v) (fun i h => h.IsListIter I l i ∧ h.IsList l items ∧ h.get? x1 = some o1) where
  sub := fun b hb => by simp at hb; simp [hb]
  frame := fun _ _ _ st hk => ⟨st.1.at fun o e => hk I (by simp) o e, st.2.1.at fun o e => hk l (by simp) o e, hk x1 (by simp) o1 st.2.2⟩
  item := fun i s Q E hi st hQ => wpAny_pyNext_list_item st.1 st.2.1 (x := items[i]) (by simp [hi]) fun h' hit' hs' =>
    hQ _ h' s.toks (by simp [hi]) ⟨hit', st.2.1.extBut hs'.extBut n1, hs'.extBut x1 o1 n2 st.2.2⟩ fun b o hb e => hs'.extBut b o (fun h => hb (by simp [h])) e
  done := fun s Q E st hQ => list_end_hot ⟨hh, o1, vs1, st.2.2, d1, c1⟩ n2 st.1 st.2.1 (by simp) fun h' he' => hQ h' s.toks fun b o hb e => he' b o (fun h => hb (by simp [h])) e
  self := fun _ _ _ _ st hQ => wpAny_pyIter_listiter st.1 hQ
end
theorem cr_anyHot {X : Cx} {a : Addr} {oe : Obj} {pn : List (Addr × Obj)} {cls : Value} {d : Option Addr} (hz : L2N.Zn cls d oe) (hf : ∃ vs, oe.data = .fields vs) : CallR (X.suite a ((a, oe) :: pn)) (.builtin "any") (rAny X.K) := by
  intro pins s σ H vs us Q I r h
  obtain ⟨l, bs, rfl, hs, q⟩ := h
  obtain ⟨its, rv, hl, _⟩ := I.list hs
  rw [Vals.ref1 r]
  have hb := rv.bls
  obtain ⟨hget, _⟩ := I.pin (a, oe) (List.mem_append.mpr (.inl List.mem_cons_self))
  obtain ⟨fv, hv⟩ := hf
  have hc := hz.2.2 fv hv
  refine call_any_walk (iter_any hl.isList fun s₂ e2 st hne => ?_)
  subst e2
  have na : a ≠ s.heap.objs.size := Nat.ne_of_lt (Heap.lt_size hget)
  refine ⟨_, _, _, _, _, _, _, rfl, walks_hot (x1 := a) (o1 := oe) (vs1 := fv) rfl hv hc _ l hne na its.toArray, ⟨st.1, st.2, Heap.get?_push_of_some _ hget⟩, truth_bools hb, fun h' tk hk => ?_⟩
  refine ⟨.bl _, H, I.kept fun b o eo => hk b o (fun hm => ?_) (Heap.get?_push_of_some _ eo), ?_, q⟩
  · exact absurd (List.mem_singleton.mp hm) (Nat.ne_of_lt (Heap.lt_size eo))
  · show Value.bool _ = Value.bool _
    rw [← L2.any_range, hb, List.size_toArray, List.length_map]
theorem ev_any {K : PySem.W.Frag} {σ : L2.St} {H : Hp} {te : TE} {p : Addr} {bs : List Bool} (h : Ev te σ H (.ref p)) (hl : SqL K H p (bV bs)) : Ev (tCB (rAny K) (tCons te tNil)) σ H (.bl (bs.any id)) := fun H1 e Q q =>
  h H1 e _ fun H2 e2 => ⟨p, bs, rfl, ex_l (e.trans e2) hl, q H2 e2⟩
end Fw

set_option Elab.async false
set_option linter.all false
set_option maxRecDepth 100000
set_option maxHeartbeats 4000000
namespace Fw
open PySem PySem.Spec PyProof.Rows L2 Evl
section
variable {K : PySem.W.Frag} {σ : L2.St} {H : Hp} {ta : TA} {te tb td : TE} {D : Ends} {tu tz : TS} {xs ys : List V}
/-- for x, y in zip(list, list), both stand -/
theorem s_forZ {i1 i2 : Nat} {p q : Addr} (h : EvA ta σ H [.ref p, .ref q]) (hx : SqL K H p xs) (hy : SqL K H q ys) (hn : xs.length = ys.length) (Pv : Nat → L2.St → Hp → Prop) (h0 : ∀ H1, Ex H H1 → Pv 0 σ H1)
    (hl : ∀ i σ' H', Pv i σ' H' → SqL K H' p xs ∧ SqL K H' q ys)
    (hs : ∀ i x y σ' H', xs[i]? = some x → ys[i]? = some y → Pv i σ' H' → ∀ H2, Ex H' H2 → tu { D with nx := Pv (i + 1), ct := Pv (i + 1), bk := D.nx } ((σ'.set i1 (some x)).set i2 (some y)) H2) (hd : ∀ σ' H', Pv xs.length σ' H' → D.nx σ' H') :
    tFor (iZip K ta) (gTup K 2 (gCons (gName i1) (gCons (gName i2) gNil))) tu D σ H :=
  h H (Ex.refl H) _ fun H1 e => ⟨p, q, xs, ys, rfl, ex_l e hx, ex_l e hy, for_it (walk_zip (K := K) (a := p) (b := q) (xs := xs) (ys := ys) (n := xs.length) (by rw [hn, Nat.min_self])) Pv (h0 H1 e) (fun i σ' H' _ z => hl i σ' H' z) (fun i x σ' H2 H3 hi z y => by
    obtain ⟨T, x1, x2, rfl, hT, rfl, e1, e2⟩ := y
    exact ⟨T, _, rfl, Or.inl (Or.inl upd_same), rfl, _, _, rfl, _, _, rfl, rfl, hs i x1 x2 σ' _ e1 e2 z _ (Ex.new hT)⟩) (fun σ' H2 z => hd σ' H2 z)⟩
theorem q_forZ {i1 i2 : Nat} {p q : Addr} (h : EvA ta σ H [.ref p, .ref q]) (hx : SqL K H p xs) (hy : SqL K H q ys) (hn : xs.length = ys.length) (Pv : Nat → L2.St → Hp → Prop) (h0 : ∀ H1, Ex H H1 → Pv 0 σ H1)
    (hl : ∀ i σ' H', Pv i σ' H' → SqL K H' p xs ∧ SqL K H' q ys)
    (hs : ∀ i x y σ' H', xs[i]? = some x → ys[i]? = some y → Pv i σ' H' → ∀ H2, Ex H' H2 → tu { D with nx := Pv (i + 1), ct := Pv (i + 1), bk := tz D } ((σ'.set i1 (some x)).set i2 (some y)) H2) (hd : ∀ σ' H', Pv xs.length σ' H' → tz D σ' H') :
    tSeq (tFor (iZip K ta) (gTup K 2 (gCons (gName i1) (gCons (gName i2) gNil))) tu) tz D σ H := s_forZ (D := { D with nx := tz D }) h hx hy hn Pv h0 hl hs hd
theorem str_inj {x y : Str} (h : x.cps.toList = y.cps.toList) : x = y := TL.ext_tl h
/-- sorted(set(list of texts)) -/
theorem el_sortS {w : World} {l : Addr} {ks : List (List Nat)} (h : Ev td σ H (.ref l)) (hl : H l = some (.lst (ks.map fun t => V.str (S t)))) (hz : ks.length ≤ 4000) {ms : List (List Nat)} (hm : ms.Pairwise (· < ·)) (hk : ∀ t, t ∈ ms ↔ t ∈ ks) (hu : ∀ ys : List (List Nat), ys.Pairwise (· < ·) → (∀ t, t ∈ ys ↔ t ∈ ms) → ys = ms) :
    EvL (tCB (rSortT w) (tCons (tCB (rSetT K w) (tCons td tNil)) tNil)) σ H (ms.map fun t => V.str (S t)) := fun H1 e Q q =>
  h H1 e _ fun H2 e2 => ⟨l, ks.map S, rfl, sq_of (by rw [List.map_map]; exact e2 _ _ (e _ _ hl)), by rw [List.length_map]; exact hz, fun p hp => ⟨p, ks.map S, rfl, upd_same, fun ys r nd mem rise hr => by
    have e3 : ys.map V.str = (ys.map fun z => z.cps.toList).map fun t => V.str (S t) := by
      rw [List.map_map]
      exact List.map_congr_left fun z _ => rfl
    have nd2 : (ys.map fun z => z.cps.toList).Nodup := List.Pairwise.map _ (fun a b n z => n (str_inj z)) nd
    have le : (ys.map fun z => z.cps.toList).Pairwise fun x y => ¬ y < x := List.pairwise_map.mpr rise
    have lt : (ys.map fun z => z.cps.toList).Pairwise (· < ·) := (le.and nd2).imp fun {x y} ⟨h1, h2⟩ => by
      by_cases z : x < y
      · exact z
      · rw [List.not_lt] at h1 z
        exact absurd (List.le_antisymm h1 z) h2
    have mem2 : ∀ t, t ∈ ys.map (fun z => z.cps.toList) ↔ t ∈ ms := fun t => by
      rw [hk, List.mem_map]
      constructor
      · rintro ⟨z, hz, rfl⟩
        obtain ⟨t, ht, rfl⟩ := List.mem_map.mp ((mem z).mp hz)
        simpa using ht
      · intro ht
        exact ⟨S t, (mem _).mpr (List.mem_map.mpr ⟨t, ht, rfl⟩), by simp⟩
    rw [e3, hu _ lt mem2]
    have er : H2 r = none := by
      by_cases z : r = p
      · rw [z]; exact hp
      · rw [upd_ne z] at hr; exact hr
    exact q r _ (fresh_back e2 er) ((e2.trans (Ex.new hp)).trans (Ex.new hr)) upd_same⟩⟩
/-- [e for x in range(n)], all of them -/
theorem el_rangeM {j : Nat} {vs : List Nat} {n : Nat} (g : Nat → V) (h : EvA ta σ H [.int (n : Int)]) (hn : n ≤ 30000) (hw : ∀ x, wipe ((wipe σ vs).set j (some x)) vs = wipe σ vs)
    (he : ∀ (i : Nat) H1, Ex H H1 → i < n → Ev te ((wipe σ vs).set j (some (.int (i : Int)))) H1 (g i)) : EvL (tLc (iRng1 ta) (gName j) tYes te vs) σ H ((List.range n).map g) := by
  have := el_lcR1 (σ := σ) (H := H) (te := te) (ta := ta) (t := tYes) (j := j) (vs := vs) (n := (n : Int)) (fun _ => true) g h ⟨by omega, by omega⟩ hw (fun i H1 e hi => et_yes) (fun i H1 e hi _ => he i H1 e (by omega))
  have e0 : given (n : Int).toNat (fun _ => true) g = (List.range n).map g := by
    unfold given
    rw [List.filter_eq_self.mpr (fun _ _ => rfl)]
    rfl
  rw [e0] at this
  exact this
end
end Fw

set_option Elab.async false
set_option linter.all false
set_option maxRecDepth 100000
set_option maxHeartbeats 4000000
namespace Fw
open PySem PySem.Spec PyProof.Rows L2 Evl
/-! ### xs[lo::k] -/
theorem vals_places : ∀ {xs : List V} {us : List Value}, Vals xs us → ∀ js : List Nat, Vals (js.filterMap (xs[·]?)) (js.filterMap (us[·]?))
  | _, _, _, [] => .nil
  | xs, us, h, j :: js => by
    have ih := vals_places h js
    cases hn : xs[j]? with
    | some n =>
      obtain ⟨t, hv, r⟩ := Vals.get h hn
      simp only [List.filterMap_cons, hn, hv]
      exact .cons r ih
    | none =>
      have hv := Vals.none_of h hn
      simp only [List.filterMap_cons, hn, hv]
      exact ih
def tStepL (K : PySem.W.Frag) (te : TE) (tl : TO) : TE := fun σ H Q => te σ H fun x H1 => tl σ H1 fun _ H2 => ∃ a xs, x = .ref a ∧ SqL K H2 a xs ∧ ∀ p ys, H2 p = none → ys.length ≤ xs.length → (∀ y ∈ ys, y ∈ xs) → Q (.ref p) (upd H2 p (.lst ys))
section
variable {X : Cx}
theorem pe_stepL {e : Expr} {te : TE} {tl : TO} {b c : Int} {k m : Nat} {p0 p1 p3 pos : Pos} (hc : c ≠ 0) (he : PE X e te) (hl : PO X (some (.Constant (.int b) m p0)) tl) :
    PE X (.Subscript e (.Slice (some (.Constant (.int b) m p0)) none (some (.Constant (.int c) k p1)) p3) pos) (tStepL X.K te tl) := by
  refine ⟨fun pins s σ H Q I h => ?_⟩
  refine Subscript_ (thn (he.run pins s σ H _ I h) fun v s1 ⟨x, H1, I1, r1, q1⟩ => ?_)
  have hst : PO X (some (.Constant (.int c) k p1)) (tPart (tC (.int c))) := po_some pe_int
  refine wpAny_Slice (thn (hl.run pins s1 σ H1 _ I1 q1) fun vl s2 ⟨l, H2, I2, pl, a, xs, ex, hx, q⟩ => ?_)
  subst ex
  cases r1
  refine thn (po_none.run pins s2 σ H2 (fun o H3 => o = none ∧ H3 = H2) I2 ⟨rfl, rfl⟩) fun vu s3 ⟨u, H3, I3, pu, eu, e3⟩ => ?_
  subst eu e3
  refine thn (hst.run pins s3 σ H3 (fun o H4 => o = some c ∧ H4 = H3) I3 ⟨c, rfl, rfl, rfl⟩) fun vs s4 ⟨o, H4, I4, ps, eo, e4⟩ => ?_
  subst eo e4
  have I5 : Inv X pins σ H4 { s4 with heap := s4.heap.push { cls := .type "slice", data := .fields #[vl, vu, vs] } } := I4.kept (t' := s4.toks) fun b ob q => Heap.get?_push_of_some _ q
  obtain ⟨its, r, ht, hz⟩ := I5.list hx
  have hlen := r.length
  show wpAny (model X.prog X.w) X.A (subscriptTail e (.Slice (some (.Constant (.int b) m p0)) none (some (.Constant (.int c) k p1)) p3) (.ref a) (.ref s4.heap.objs.size)) (EP X pins σ Q) X.xe { s4 with heap := s4.heap.push { cls := .type "slice", data := .fields #[vl, vu, vs] } }
  refine tail_any (ops := [.ref a, .ref s4.heap.objs.size]) ht.isList.typeIs (PySem.slot_list_getitem.lookup) ?_ (by with_unfolding_all rfl)
  refine wpAny_getItem_list_slice ht.isList (Heap.IsSliceOf.new _ vl vu vs) pl pu ps (fun z => hc (Option.some.inj z)) ?_ (by rw [List.size_toArray]; omega)
  obtain ⟨js, hjs⟩ : ∃ js : List Nat, slicePick its.toArray l none (some c) = (js.filterMap (its[·]?)).toArray := ⟨_, by
    unfold slicePick
    simp only [List.getElem?_toArray]
    rfl⟩
  have hsz := slicePick_size_le its.toArray l none (some c)
  rw [hjs, List.size_toArray, List.size_toArray, ← hlen, ← (vals_places r js).length] at hsz
  rw [hjs]
  refine ⟨.ref _, _, I5.laid (t' := s4.toks) (o := .lst (js.filterMap (xs[·]?))) (fun b ob q => Heap.get?_push_of_some _ q) (Nat.le_refl _) ?_, rfl, q _ _ (I5.hok.fresh (Nat.le_refl _)) hsz ?_⟩
  · exact ⟨Nat.le_trans hsz hz, _, 0, vals_places r js, Heap.get?_push_size _ rfl⟩
  · intro y hy
    obtain ⟨j, _, hj⟩ := List.mem_filterMap.mp hy
    exact List.mem_of_getElem? hj
end
/-! ### some new list of whole numbers, n at the most -/
def EvI (te : TE) (σ : L2.St) (H : Hp) (n : Nat) : Prop := ∀ H1, Ex H H1 → ∀ Q : VK, (∀ p (T : List Int) H2, H1 p = none → Ex H1 H2 → H2 p = some (.lst (iV T)) → T.length ≤ n → Q (.ref p) H2) → te σ H1 Q
theorem ints_of {ns : List Int} : ∀ {ys : List V}, (∀ y ∈ ys, y ∈ iV ns) → ∃ T : List Int, ys = iV T
  | [], _ => ⟨[], rfl⟩
  | y :: ys, h => by
    obtain ⟨T, rfl⟩ := ints_of (ys := ys) fun z hz => h z (List.mem_cons_of_mem _ hz)
    obtain ⟨n, _, rfl⟩ := List.mem_map.mp (h y (List.mem_cons_self ..))
    exact ⟨n :: T, rfl⟩
section
variable {K : PySem.W.Frag} {σ : L2.St} {H : Hp} {ta tb te tl : TE} {D : Ends} {tu tz : TS} {n m : Nat} {T : List Int} {a : Addr} {tt : TT}
theorem ei_of (h : EvL te σ H (iV T)) (hn : T.length ≤ n) : EvI te σ H n := fun H1 e Q q => h H1 e Q fun p H2 hp e2 h2 => q p T H2 hp e2 h2 hn
theorem EvI.mono {H' : Hp} (e : Ex H H') (h : EvI te σ H n) : EvI te σ H' n := fun H1 a Q q => h H1 (e.trans a) Q q
theorem ei_cat (ha : EvI ta σ H n) (hb : EvI tb σ H m) (hl : n + m ≤ 100000) : EvI (tOp rCat ta tb) σ H (n + m) := fun H1 e Q q =>
  ha H1 e _ fun p T1 H2 _ e2 h2 l1 => hb H2 (e.trans e2) _ fun r T2 H3 _ e3 h3 l2 => ⟨p, r, iV T1, iV T2, rfl, rfl, e3 _ _ h2, h3, sz_of (by rw [List.length_map, List.length_map]; omega), fun l hl => q l (T1 ++ T2) _ (fresh_back (e2.trans e3) hl) ((e2.trans e3).trans (Ex.new hl)) (by rw [upd_same, iV, iV, iV, List.map_append]) (by rw [List.length_append]; omega)⟩
theorem ei_sl {tlo thi : TO} {lo hi : Option Int} (h : Ev te σ H (.ref a)) (h1 : EvO tlo σ H lo) (h2 : EvO thi σ H hi) (hs : SqL K H a (iV T)) : EvI (tSl (rSlL K) te tlo thi) σ H T.length := by
  have := el_sl h h1 h2 hs
  rw [cutV, iV, ← List.map_drop, ← List.map_take] at this
  exact ei_of this (by rw [List.length_take, List.length_drop]; omega)
theorem ei_step {tlo : TO} {lo : Option Int} (h : Ev te σ H (.ref a)) (h1 : EvO tlo σ H lo) (hs : SqL K H a (iV T)) : EvI (tStepL K te tlo) σ H T.length := fun H1 e Q q =>
  h H1 e _ fun H2 e2 => h1 H2 (e.trans e2) _ fun H3 e3 => ⟨a, iV T, rfl, ex_l ((e.trans e2).trans e3) hs, fun p ys hp hl hm => by
    obtain ⟨T2, rfl⟩ := ints_of hm
    rw [List.length_map, List.length_map] at hl
    exact q p T2 _ (fresh_back (e2.trans e3) hp) ((e2.trans e3).trans (Ex.new hp)) upd_same hl⟩
theorem ei_lc {j : Nat} {vs : List Nat} (g : Int → Int) (h : EvI tl σ H n) (hz : n ≤ 40000) (hw : ∀ x, wipe ((wipe σ vs).set j (some x)) vs = wipe σ vs)
    (he : ∀ i : Int, ∀ H1, Ex H H1 → Ev te ((wipe σ vs).set j (some (.int i))) H1 (.int (g i))) : EvI (tLc (iList K tl) (gName j) tYes te vs) σ H n := fun H1 e Q q =>
  h H1 e _ fun p T H2 hp e2 h2 hn => (el_lcS (K := K) (xs := T) (a := V.int) (tl := tC (.ref p)) (te := te) (σ := σ) (H := H2) (j := j) (vs := vs) (fun i => V.int (g i)) ev_c (sq_of h2) (by omega) hw fun i _ H3 e3 => he i H3 ((e.trans e2).trans e3)) H2 (Ex.refl _) Q fun r H3 hr e3 h3 => q r (T.map g) H3 (fresh_back e2 hr) (e2.trans e3) (by rw [h3, iV, List.map_map]; rfl) (by rw [List.length_map]; exact hn)
theorem ei_lcV {j : Nat} {vs : List Nat} (g : Int → Int) (h : Ev tl σ H (.ref a)) (hs : SqL K H a (iV T)) (hz : T.length ≤ 40000) (hw : ∀ x, wipe ((wipe σ vs).set j (some x)) vs = wipe σ vs)
    (he : ∀ i : Int, ∀ H1, Ex H H1 → Ev te ((wipe σ vs).set j (some (.int i))) H1 (.int (g i))) : EvI (tLc (iList K tl) (gName j) tYes te vs) σ H T.length := fun H1 e Q q =>
  (el_lcS (K := K) (xs := T) (a := V.int) (fun i => V.int (g i)) h hs hz hw fun i _ H3 e3 => he i H3 e3) H1 e Q fun r H3 hr e3 h3 => q r (T.map g) H3 hr e3 (by rw [h3, iV, List.map_map]; rfl) (by rw [List.length_map]; exact Nat.le_refl _)
theorem ei_revI (h : Ev te σ H (.ref a)) (hl : SqL K H a (iV T)) : EvI (tRevL K te) σ H T.length := fun H1 e Q q =>
  h H1 e _ fun H2 e2 => ⟨a, iV T, rfl, ex_l (e.trans e2) hl, fun l hn => q l T.reverse _ (fresh_back e2 hn) (e2.trans (Ex.new hn)) (by rw [upd_same, iV, iV, List.map_reverse]) (by rw [List.length_reverse]; exact Nat.le_refl _)⟩
theorem ei_if {b : Bool} (h : EvT tt σ H b) (ha : EvI ta σ H n) (hb : EvI tb σ H n) : EvI (tIf tt ta tb) σ H n := fun H1 e Q q => h H1 e _ fun H2 e2 => by
  cases b with
  | true =>
    show ta σ H2 Q
    exact ha H2 (e.trans e2) Q fun p T H3 hp e3 h3 hn => q p T H3 (fresh_back e2 hp) (e2.trans e3) h3 hn
  | false =>
    show tb σ H2 Q
    exact hb H2 (e.trans e2) Q fun p T H3 hp e3 h3 hn => q p T H3 (fresh_back e2 hp) (e2.trans e3) h3 hn
theorem s_retI (h : EvI te σ H n) (k : ∀ p (T : List Int) H1, H p = none → Ex H H1 → H1 p = some (.lst (iV T)) → T.length ≤ n → D.rt (.ref p) H1) : tRet te D σ H := h H (Ex.refl H) _ k
theorem q_asgI {i : Nat} (h : EvI te σ H n) (k : ∀ p (T : List Int) H1, H p = none → Ex H H1 → H1 p = some (.lst (iV T)) → T.length ≤ n → tz D (σ.set i (some (.ref p))) H1) : tSeq (tAsg te (gName i)) tz D σ H := h H (Ex.refl H) _ k
/-- a loop over such a list: over it as it stands -/
theorem q_forI {g : TG} (h : EvI te σ H n) (k : ∀ p (T : List Int) H1, H p = none → Ex H H1 → H1 p = some (.lst (iV T)) → T.length ≤ n → tSeq (tFor (iList K (tC (.ref p))) g tu) tz D σ H1) : tSeq (tFor (iList K te) g tu) tz D σ H :=
  h H (Ex.refl H) _ fun p T H1 hp e h1 hn => k p T H1 hp e h1 hn
theorem q_forIV {g : TG} {b : Addr} (h : EvI te σ H n) (hb : Ev tb σ H (.ref b)) (k : ∀ p (T : List Int) r H1, H p = none → Ex H H1 → H1 p = some (.lst (iV T)) → T.length ≤ n → H1 r = some (.lst [.ref p, .ref b]) → tSeq (tFor (iList K (tC (.ref r))) g tu) tz D σ H1) :
    tSeq (tFor (iList K (tLst (tCons te (tCons tb tNil)))) g tu) tz D σ H :=
  h H (Ex.refl H) _ fun p T H1 hp e h1 hn => hb H1 e _ fun H2 e2 => ⟨sz_of (by show 2 ≤ 100000; decide), fun r hr => k p T r _ hp ((e.trans e2).trans (Ex.new hr)) ((Ex.new hr) _ _ (e2 _ _ h1)) hn upd_same⟩
/-! ### text[-k:] -/
theorem cut_end (w : List Nat) (k : Nat) (hk : 0 < k) : cutS (S w) (some (-(k : Int))) none = S (w.drop (w.length - k)) := by
  unfold cutS
  rw [HT.sIx_none, S_len]
  have e : HT.sIx w.length 0 (some (-(k : Int))) = w.length - k := by
    show (if (-(k : Int)) < 0 then (-(k : Int) + (w.length : Int)).toNat else _) = _
    rw [if_pos (by omega)]
    omega
  rw [e]
  congr 2
  show (w.drop (w.length - k)).take (w.length - (w.length - k)) = w.drop (w.length - k)
  rw [List.take_of_length_le (by rw [List.length_drop]; omega)]
theorem ev_end {w : List Nat} {tlo : TO} {k : Nat} (h : Ev te σ H (.str (S w))) (h2 : EvO tlo σ H (some (-(k : Int)))) (hk : 0 < k) (hz : w.length ≤ 100000) : Ev (tSl rSlS te tlo tNoPart) σ H (.str (S (w.drop (w.length - k)))) := by
  rw [← cut_end w k hk]
  exact ev_slT h h2 eo_none (by rw [S_len]; exact hz)
end
end Fw

set_option Elab.async false
set_option linter.all false
set_option maxRecDepth 100000
set_option maxHeartbeats 4000000
namespace Fw
open PySem PySem.Spec PyProof.Rows L2 Evl
def top (i : Nat) : Stmt := PySem.Challenge.pw_firstword_k06_answers_by_hand.main.body.getD i (.Pass ⟨0, 0, 0, 0⟩)
/-- what the top has left of names: the built-ins stand, the letters -/
structure Tx (K : PySem.W.Frag) (mg : Str → Option Value) : Prop where
  n_len : mg "len" = none
  n_range : mg "range" = none
  n_isinstance : mg "isinstance" = none
  n_str : mg "str" = none
  n_int : mg "int" = none
  n_bool : mg "bool" = none
  n_list : mg "list" = none
  n_sum : mg "sum" = none
  n_min : mg "min" = none
  n_max : mg "max" = none
  n_all : mg "all" = none
  n_any : mg "any" = none
  n_sorted : mg "sorted" = none
  n_enumerate : mg "enumerate" = none
  n_zip : mg "zip" = none
  n_set : mg "set" = none
  g_LETTERS : ∃ u, mg "LETTERS" = some u ∧ RelV (.str (S (lets 26))) u
theorem let26_len : (lets 26).length = 26 := rfl
theorem lets_take {s : Nat} (h : s ≤ 26) : (lets 26).take s = lets s := by
  unfold lets
  rw [← List.map_take, List.take_range, Nat.min_eq_left h]
/-- a test that fails, nothing else -/
theorem s_not {K : PySem.W.Frag} {σ : L2.St} {H : Hp} {t : TT} {tu : TS} {D : Ends} (h : EvT t σ H false) (k : ∀ H1, Ex H H1 → D.nx σ H1) : tIfS t tu tNext D σ H :=
  s_when h (fun e => nomatch e) fun _ => k
theorem q_not {K : PySem.W.Frag} {σ : L2.St} {H : Hp} {t : TT} {tu tz : TS} {D : Ends} (h : EvT t σ H false) (k : ∀ H1, Ex H H1 → tz D σ H1) : tSeq (tIfS t tu tNext) tz D σ H :=
  q_when h (fun e => nomatch e) fun _ => k
theorem over_dec {s : Nat} {w : Wd} : (∀ c ∈ w, c ∈ lets s) ↔ Over s w := ⟨fun h c hc => lets_mem.mp (h c hc), fun h c hc => lets_mem.mpr (h c hc)⟩
theorem S_empty : Str.ofString "" = S [] := by decide +kernel

/-! ### what a word is -/
abbrev sIsThrows : Stmt := top 8
abbrev sAskedWord : Stmt := top 10
abbrev sBacks : Stmt := top 11
abbrev sNext : Stmt := top 12
def spIsThrows : Sp := PV fun vs H z => ∃ (w : Wd) (s : Nat), vs = [.str (S w), .int (s : Int)] ∧ s ≤ 26 ∧ w.length ≤ 1000 ∧ z = .bl (decide (∀ c ∈ w, c ∈ lets s))
def spAskedWord : Sp := PV fun vs H z => ∃ (w : Wd) (s : Nat), vs = [.str (S w), .int (s : Int)] ∧ s ≤ 26 ∧ w.length ≤ 1000 ∧ Over s w ∧ 0 < w.length ∧ z = .non
def spBacks : Sp := PL fun vs H xs => ∃ w : Wd, vs = [.str (S w)] ∧ 0 < w.length ∧ w.length ≤ 1000 ∧ xs = iV (nI (backsTo w w.length))
def spNext (K : PySem.W.Frag) : Sp := PV fun vs H z => ∃ (w : Wd) (told : Addr) (m c : Nat), vs = [.str (S w), .ref told, .int (m : Int), .str (S [c])] ∧ SqL K H told (iV (nI (backsTo w w.length))) ∧
  m ≤ w.length ∧ 0 < w.length ∧ w.length ≤ 1000 ∧ z = .int (nx w m c : Nat)
section
variable {P : Program} {w : World} {K : PySem.W.Frag} {mg : Str → Option Value} {base : Heap} {f : Addr} {fd : FuncData}
theorem scIsThrows : FnScope ["thing", "sides"] ["thing", "sides"] (defScope sIsThrows) := ⟨rfl, rfl, rfl, by decide +kernel, rfl, by decide +kernel, by decide +kernel⟩
theorem ok_is_throws (T : Tx K mg) (F : L2.Fun K "is_throws" "is_throws" sIsThrows f fd) : FnOk P w K mg base CX0 1 f fd ["thing", "sides"] spIsThrows := by
  refine F.ok scIsThrows (fun vs H Q E h => ?_) (fun cdv A outer s H vs Q E hr h => ?_)
  · obtain ⟨z, ⟨_, _, rfl, _⟩, _⟩ := h
    rfl
  · obtain ⟨z, ⟨x, s, rfl, hs, hx, rfl⟩, k⟩ := h
    refine ⟨_, (pss_one (ps_ret (pe_and (pe_callB call_isi (by rfl) T.n_isinstance (by decide +kernel) (pa_cons (pv 0) (pa_cons (pe_ty "str" T.n_str) pa_nil))) (pe_one (pe_cmpR op_eq (pe_bm PySem.F.plainAttrs_str PySem.F.slot_str_strip PySem.F.type_str_strip mt_stripChars (pv 0) (pa_cons (pe_slice sl_str (pe_gcn T.g_LETTERS) po_none (po_some (pv 1))) pa_nil)) pe_str (nomark _)))))), ?_⟩
    refine s_ret (v := .bl (true && decide (∀ c ∈ x, c ∈ lets s))) (ev_andV (ev_isi (t := "str") (ev_var rfl) (fun _ _ => ty_str) (by decide +kernel)) fun _ => ?_) k
    refine ev_op (ev_strip (b := lets s) (ev_var rfl) (ea_cons ?_ ea_nil) (by omega)) ev_c ?_
    · exact ev_is (v := .str (S ((lets 26).take s))) (ev_to ev_c (eo_is (ev_var rfl) rfl) (by rw [let26_len]; omega)) (by rw [lets_take hs])
    · rw [S_empty]
      refine fun H1 e Q q => ⟨rfl, ?_⟩
      have e2 : decide (V.str (Txt.stripChars (S x) (S (lets s))) = V.str (S [])) = decide (∀ c ∈ x, c ∈ lets s) := by
        by_cases hq : ∀ c ∈ x, c ∈ lets s
        · rw [decide_eq_true hq, strip_none.mpr hq]; simp
        · rw [decide_eq_false hq, decide_eq_false]
          exact fun z => hq (strip_none.mp (V.str.inj z))
      rw [e2]
      exact q H1 (Ex.refl H1)
end
end Fw

set_option Elab.async false
set_option linter.all false
set_option maxRecDepth 100000
set_option maxHeartbeats 4000000
namespace Fw
open PySem PySem.Spec PyProof.Rows L2 Evl
section
variable {P : Program} {w : World} {K : PySem.W.Frag} {mg : Str → Option Value} {base : Heap} {f : Addr} {fd : FuncData}
theorem scAskedWord : FnScope ["word", "sides"] ["word", "sides"] (defScope sAskedWord) := ⟨rfl, rfl, rfl, by decide +kernel, rfl, by decide +kernel, by decide +kernel⟩
theorem ok_asked_word (T : Tx K mg) (F : L2.Fun K "asked_word" "asked_word" sAskedWord f fd) (C_is_throws : Ca P w K mg base 1 "is_throws" spIsThrows) : FnOk P w K mg base CX0 2 f fd ["word", "sides"] spAskedWord := by
  refine F.ok scAskedWord (fun vs H Q E h => ?_) (fun cdv A outer s H vs Q E hr h => ?_)
  · obtain ⟨z, ⟨_, _, rfl, _⟩, _⟩ := h
    rfl
  · obtain ⟨z, ⟨x, s, rfl, hs, hx, ho, h0, rfl⟩, k⟩ := h
    have hr : Room 1 _ := hr
    refine ⟨_, (pss_one (ps_if (PW.pt (pw_or (pt_not (pt_val (pe_ca C_is_throws hr (pa_cons (pv 0) (pa_cons (pv 1) pa_nil))))) (pw_or1 (pt_cmpR op_eq (pv 0) pe_str (nomark _)))))
      (pss_one ps_never) pss_nil)), ?_⟩
    refine s_not (K := K) (et_is (b := false) (et_or (a := false) (b := false) (et_is (et_not (et_B (ev_pv (z := .bl true) (ea_cons (ev_var rfl) (ea_cons (ev_var rfl) ea_nil)) fun _ _ => ⟨x, s, rfl, hs, hx, ?_⟩))) rfl) fun _ => ?_) rfl) fun H1 e1 => k H1 e1
    · rw [decide_eq_true (over_dec.mpr ho)]
    · rw [S_empty]
      refine et_is (et_test (ev_op (ev_var rfl) ev_c rv_eqS)) (decide_eq_false fun q => ?_)
      rw [q] at h0
      exact Nat.lt_irrefl _ h0
theorem scBacks : FnScope ["word", "found", "at", "many"] ["word"] (defScope sBacks) := ⟨rfl, rfl, rfl, by decide +kernel, rfl, by decide +kernel, by decide +kernel⟩
theorem nI_get {l : List Nat} {k v : Nat} (h : l[k]? = some v) : (nI l)[k]? = some (v : Int) := by
  rw [List.getElem?_map, h]; rfl
theorem ok_backs (T : Tx K mg) (F : L2.Fun K "backs" "backs" sBacks f fd) : FnOk P w K mg base CX0 1 f fd ["word"] spBacks := by
  refine F.ok scBacks (fun vs H Q E h => ?_) (fun cdv A outer s H vs Q E hr h => ?_)
  · obtain ⟨z, ⟨_, rfl, _⟩, _⟩ := h
    rfl
  · obtain ⟨z, ⟨x, rfl, h0, hx, rfl⟩, k⟩ := h
    have nd := scBacks.nd
    refine ⟨_, (pss_cons (ps_set (i := 1) nd rfl (Or.inl rfl) (pe_lst (pa_cons pe_int (pa_cons pe_int pa_nil))))
      (pss_cons (ps_for PassesOwn.never rfl (pi_range2 (by rfl) T.n_range (pa_cons pe_int (pa_cons (pe_callB call_len_str (by rfl) T.n_len PySem.boot_len (pa_cons (pv 0) pa_nil)) pa_nil))) (pg_name (i := 2) nd rfl (Or.inl rfl))
        (pss_cons (ps_set (i := 3) nd rfl (Or.inl rfl) (pe_ix ix_list (pv 1) (pv 2) (fun _ _ => rfl)))
        (pss_cons (ps_while PassesOwn.never (PW.pt (pw_and (pt_cmpR op_gt (pv 3) pe_int (nomark _)) (pw_and1 (pt_cmpR op_ne (pe_ix ix_str (pv 0) (pv 3) (fun _ _ => rfl)) (pe_ix ix_str (pv 0) (pv 2) (fun _ _ => rfl)) (nomark _)))))
          (pss_one (ps_set (i := 3) nd rfl (Or.inl rfl) (pe_ix ix_list (pv 1) (pv 3) (fun _ _ => rfl)))))
        (pss_one (ps_expr (pe_bm PySem.F.plainAttrs_list PySem.F.slot_list_append PySem.F.type_list_append mt_append (pv 1) (pa_cons (pe_ifExp (pt_cmpR op_eq (pe_ix ix_str (pv 0) (pv 3) (fun _ _ => rfl)) (pe_ix ix_str (pv 0) (pv 2) (fun _ _ => rfl)) (nomark _)) (pe_op op_add (pv 3) pe_int) pe_int) pa_nil)))))))
      (pss_one (ps_ret (pv 1))))), ?_⟩
    refine q_asgL (xs := iV [0, 0]) (el_lst (ea_cons ev_c (ea_cons ev_c ea_nil)) (by decide)) fun p H1 hp e1 h1 => ?_
    refine q_forR2 (lo := 1) (n := x.length) (ea_cons ev_c (ea_cons (ev_lenS (ev_var rfl) (by omega)) ea_nil)) ⟨by omega, by omega, by omega, by omega⟩
      (fun i σ' H' => ∃ a b, σ' = [some (.str (S x)), some (.ref p), a, b] ∧ Ex H H' ∧ H' p = some (.lst (iV (nI (backsTo x (i + 1)))))) (fun H2 e2 => ⟨none, none, rfl, e1.trans e2, e2 _ _ h1⟩) ?_ ?_
    · rintro i σ' H2 hi ⟨a, b, rfl, e2, h2⟩
      have e0 : (1 : Int) + (i : Int) = ((i + 1 : Nat) : Int) := by omega
      rw [e0]
      have hlt : i + 1 < x.length := by omega
      obtain ⟨c, hc⟩ := get_some hlt
      refine q_asg (v := .int (fail x (i + 1) : Nat)) (ev_op (ev_var rfl) (ev_var rfl) (rv_iL (sq_of h2) (nI_get (backsTo_get (Nat.le_refl _))))) fun H3 e3 => ?_
      refine q_while (fun m σ' H' => σ' = [some (.str (S x)), some (.ref p), some (.int ((i + 1 : Nat) : Int)), some (.int (m : Int))] ∧ Ex H H' ∧ H' p = some (.lst (iV (nI (backsTo x (i + 1))))) ∧ Desc x (x.take (i + 1)) c (i + 1) m) (fail x (i + 1))
        ⟨rfl, e2.trans e3, e3 _ _ h2, Desc.of_back (Nat.succ_pos i)⟩ ?_
      rintro m σ' H4 ⟨rfl, e4, h4, D⟩
      have hm := D.lt
      obtain ⟨d, hd⟩ := get_some (show m < x.length by omega)
      refine ⟨decide ((0 : Int) < (m : Int)) && !decide (d = c), et_and (et_test (ev_op (ev_var rfl) ev_c rv_I0)) (fun _ => et_test (ev_op (ev_op (ev_var rfl) (ev_var rfl) (rv_item (by omega) hd)) (ev_op (ev_var rfl) (ev_var rfl) (rv_item (by omega) hc)) rv_neC)), fun hb H5 e5 => ?_, fun hb H5 e5 => ?_⟩
      · rw [Bool.and_eq_true, decide_eq_true_eq, Bool.not_eq_true', decide_eq_false_iff_not] at hb
        refine ⟨fun σ2 H2 => ∃ m', m' < m ∧ _, fun _ _ h => h, ?_⟩
        refine s_asg (v := .int (fail x m : Nat)) (ev_op (ev_var rfl) (ev_var rfl) (rv_iL (sq_of (e5 _ _ h4)) (nI_get (backsTo_get (by omega))))) fun H6 e6 => ?_
        exact ⟨fail x m, fail_lt (by omega), rfl, (e4.trans e5).trans e6, e6 _ _ (e5 _ _ h4), D.step (by omega) (by omega) (by rw [hd]; exact fun q => hb.2 (Option.some.inj q))⟩
      · refine s_app (v := .int (fail x (i + 1 + 1) : Nat)) (e5 _ _ h4) (ev_var rfl) (ev_if (b := decide (d = c)) (et_test (ev_op (ev_op (ev_var rfl) (ev_var rfl) (rv_item (by omega) hd)) (ev_op (ev_var rfl) (ev_var rfl) (rv_item (by omega) hc)) rv_eqC)) (fun hq => ?_) (fun hq => ?_)) (by simp [backsTo_len]; omega) fun H6 e6 => ?_
        · have hq := of_decide_eq_true hq
          subst hq
          refine ev_is (ev_op (ev_var rfl) ev_c rv_I0) ?_
          rw [fail_more hc, D.hit (by omega) hd]
          rfl
        · have hq := of_decide_eq_false hq
          have m0 : m = 0 := by
            have : ¬ (0 : Int) < (m : Int) := fun z => by
              rw [decide_eq_true z, decide_eq_false hq] at hb
              exact absurd hb (by decide)
            omega
          subst m0
          refine ev_is ev_c ?_
          rw [fail_more hc, D.miss (by omega) (by rw [hd]; exact fun q => hq (Option.some.inj q))]
          rfl
        · refine ⟨_, _, rfl, Ex.mut ((e4.trans e5).trans e6) hp, ?_⟩
          rw [upd_same, backsTo_more x (i + 1)]
          simp
    · rintro σ' H2 ⟨a, b, rfl, e2, h2⟩
      refine s_ret (ev_var rfl) fun H3 e3 => k p H3 hp (e2.trans e3) ?_
      have e0 : ((x.length : Int) - 1).toNat + 1 = x.length := by omega
      rw [e0] at h2
      exact e3 _ _ h2
theorem scNext : FnScope ["word", "told", "many", "letter"] ["word", "told", "many", "letter"] (defScope sNext) := ⟨rfl, rfl, rfl, by decide +kernel, rfl, by decide +kernel, by decide +kernel⟩
theorem ok_next (T : Tx K mg) (F : L2.Fun K "next_count" "next_count" sNext f fd) : FnOk P w K mg base CX0 1 f fd ["word", "told", "many", "letter"] (spNext K) := by
  refine F.ok scNext (fun vs H Q E h => ?_) (fun cdv A outer s H vs Q E hr h => ?_)
  · obtain ⟨z, ⟨_, _, _, _, rfl, _⟩, _⟩ := h
    rfl
  · obtain ⟨z, ⟨x, told, m, c, rfl, hT, hm, h0, hx, rfl⟩, k⟩ := h
    have nd := scNext.nd
    refine ⟨_, (pss_cons (ps_if (pt_cmpR op_eq (pv 2) (pe_callB call_len_str (by rfl) T.n_len PySem.boot_len (pa_cons (pv 0) pa_nil)) (nomark _))
        (pss_one (ps_set (i := 2) nd rfl (Or.inl rfl) (pe_ix ix_list (pv 1) (pv 2) (fun _ _ => rfl)))) pss_nil)
      (pss_cons (ps_while PassesOwn.never (PW.pt (pw_and (pt_cmpR op_gt (pv 2) pe_int (nomark _)) (pw_and1 (pt_cmpR op_ne (pe_ix ix_str (pv 0) (pv 2) (fun _ _ => rfl)) (pv 3) (nomark _)))))
        (pss_one (ps_set (i := 2) nd rfl (Or.inl rfl) (pe_ix ix_list (pv 1) (pv 2) (fun _ _ => rfl)))))
      (pss_one (ps_ret (pe_ifExp (pt_cmpR op_eq (pe_ix ix_str (pv 0) (pv 2) (fun _ _ => rfl)) (pv 3) (nomark _)) (pe_op op_add (pv 2) pe_int) pe_int))))), ?_⟩
    obtain ⟨m1, em, D1⟩ : ∃ m1 : Nat, (if m = x.length then fail x m else m) = m1 ∧ Desc x (x.take m) c x.length m1 := ⟨_, rfl, by
      by_cases hb : m = x.length
      · rw [if_pos hb, hb]
        exact Desc.of_full h0
      · rw [if_neg hb]
        exact Desc.of_lt (by omega)⟩
    refine q_ifAsg (v := .int (m1 : Int)) (b := decide ((m : Int) = (x.length : Int))) (et_test (ev_op (ev_var rfl) (ev_lenS (ev_var rfl) (by omega)) rv_eqI)) (fun hb => ?_) (fun hb => ?_) fun H1 e1 => ?_
    · have hb := of_decide_eq_true hb
      have hb : m = x.length := by omega
      rw [if_pos hb] at em
      rw [← em]
      exact ev_op (ev_var rfl) (ev_var rfl) (rv_iL hT (nI_get (backsTo_get hm)))
    · have hb := of_decide_eq_false hb
      rw [if_neg (by omega)] at em
      rw [← em]
      rfl
    · refine q_while (fun m1 σ' H' => σ' = [some (.str (S x)), some (.ref told), some (.int (m1 : Int)), some (.str (S [c]))] ∧ Ex H H' ∧ Desc x (x.take m) c x.length m1) m1 ⟨rfl, e1, D1⟩ ?_
      rintro m2 σ' H4 ⟨rfl, e4, D⟩
      have hm := D.lt
      obtain ⟨d, hd⟩ := get_some (show m2 < x.length by omega)
      refine ⟨decide ((0 : Int) < (m2 : Int)) && !decide (d = c), et_and (et_test (ev_op (ev_var rfl) ev_c rv_I0)) (fun _ => et_test (ev_op (ev_op (ev_var rfl) (ev_var rfl) (rv_item (by omega) hd)) (ev_var rfl) rv_neC)), fun hb H5 e5 => ?_, fun hb H5 e5 => ?_⟩
      · rw [Bool.and_eq_true, decide_eq_true_eq, Bool.not_eq_true', decide_eq_false_iff_not] at hb
        refine ⟨fun σ2 H2 => ∃ m', m' < m2 ∧ _, fun _ _ h => h, ?_⟩
        refine s_asg (v := .int (fail x m2 : Nat)) (ev_op (ev_var rfl) (ev_var rfl) (rv_iL (ex_l (e4.trans e5) hT) (nI_get (backsTo_get (by omega))))) fun H6 e6 => ?_
        exact ⟨fail x m2, fail_lt (by omega), rfl, (e4.trans e5).trans e6, D.step (Nat.le_refl _) (by omega) (by rw [hd]; exact fun q => hb.2 (Option.some.inj q))⟩
      · refine s_ret (v := .int (nx x m c : Nat)) (ev_if (b := decide (d = c)) (et_test (ev_op (ev_op (ev_var rfl) (ev_var rfl) (rv_item (by omega) hd)) (ev_var rfl) rv_eqC)) (fun hq => ?_) (fun hq => ?_)) fun H6 e6 => k H6 ((e4.trans e5).trans e6)
        · have hq := of_decide_eq_true hq
          subst hq
          refine ev_is (ev_op (ev_var rfl) ev_c rv_I0) ?_
          unfold nx lng
          rw [D.hit (Nat.le_refl _) hd]
          rfl
        · have hq := of_decide_eq_false hq
          have m0 : m2 = 0 := by
            have : ¬ (0 : Int) < (m2 : Int) := fun z => by
              rw [decide_eq_true z, decide_eq_false hq] at hb
              exact absurd hb (by decide)
            omega
          subst m0
          refine ev_is ev_c ?_
          unfold nx lng
          rw [D.miss (Nat.le_refl _) (by rw [hd]; exact fun q => hq (Option.some.inj q))]
          rfl
end
end Fw

set_option Elab.async false
set_option linter.all false
set_option maxRecDepth 100000
set_option maxHeartbeats 4000000
namespace Fw
open PySem PySem.Spec PyProof.Rows L2 Evl
/-! ### numbers and sides -/
abbrev sIsNumber : Stmt := top 7
abbrev sAskedSides : Stmt := top 9
def spIsNumber : Sp := PV fun vs H z => ∃ n a b : Int, vs = [.int n, .int a, .int b] ∧ z = .bl (decide (a ≤ n) && decide (n ≤ b))
def spAskedSides : Sp := PV fun vs H z => ∃ s : Nat, vs = [.int (s : Int)] ∧ 2 ≤ s ∧ s ≤ 26 ∧ z = .non
section
variable {P : Program} {w : World} {K : PySem.W.Frag} {mg : Str → Option Value} {base : Heap} {f : Addr} {fd : FuncData}
theorem scIsNumber : FnScope ["thing", "least", "most"] ["thing", "least", "most"] (defScope sIsNumber) := ⟨rfl, rfl, rfl, by decide +kernel, rfl, by decide +kernel, by decide +kernel⟩
theorem ok_is_number (T : Tx K mg) (F : L2.Fun K "is_number" "is_number" sIsNumber f fd) : FnOk P w K mg base CX0 1 f fd ["thing", "least", "most"] spIsNumber := by
  refine F.ok scIsNumber (fun vs H Q E h => ?_) (fun cdv A outer s H vs Q E hr h => ?_)
  · obtain ⟨z, ⟨_, _, _, rfl, _⟩, _⟩ := h
    rfl
  · obtain ⟨z, ⟨n, a, b, rfl, rfl⟩, k⟩ := h
    refine ⟨_, (pss_one (ps_ret (pe_and (pe_callB (r := rIsi K) (id := "isinstance") call_isi (by rfl) T.n_isinstance (by decide +kernel) (pa_cons (pv 0) (pa_cons (pe_ty "int" T.n_int) pa_nil))) (pe_and (pe_not (pe_callB (r := rIsi K) (id := "isinstance") call_isi (by rfl) T.n_isinstance (by decide +kernel) (pa_cons (pv 0) (pa_cons (pe_ty "bool" T.n_bool) pa_nil)))) (pe_one (pe_chain op_le op_le (pv 1) (pv 0) (pv 2))))))), ?_⟩
    refine s_ret (v := .bl (true && (true && (decide (a ≤ n) && decide (n ≤ b))))) (ev_andV (ev_isi (K := K) (t := "int") (ev_var rfl) (fun _ _ => ty_int) (by decide +kernel)) fun _ => ev_andV (ev_is (ev_notV (ev_isi (K := K) (t := "int") (b := false) (ev_var rfl) (fun _ _ => ty_int) (by decide +kernel))) rfl) fun _ => ev_chainI (ev_var rfl) (ev_var rfl) (ev_var rfl)) k
theorem scAskedSides : FnScope ["sides"] ["sides"] (defScope sAskedSides) := ⟨rfl, rfl, rfl, by decide +kernel, rfl, by decide +kernel, by decide +kernel⟩
theorem ev_26' {σ : L2.St} {H : Hp} : Ev (tCB rLenT (tCons (tC (.str (S (lets 26)))) tNil)) σ H (.int (26 : Int)) := ev_lenS (w := lets 26) ev_c (by decide)
theorem ok_asked_sides (T : Tx K mg) (F : L2.Fun K "asked_sides" "asked_sides" sAskedSides f fd) (C_is_number : Ca P w K mg base 1 "is_number" spIsNumber) : FnOk P w K mg base CX0 2 f fd ["sides"] spAskedSides := by
  refine F.ok scAskedSides (fun vs H Q E h => ?_) (fun cdv A outer s H vs Q E hr h => ?_)
  · obtain ⟨z, ⟨_, rfl, _⟩, _⟩ := h
    rfl
  · obtain ⟨z, ⟨s, rfl, s2, s26, rfl⟩, k⟩ := h
    have hr : Room 1 _ := hr
    refine ⟨_, (pss_one (ps_if (pt_not (pt_val (pe_ca C_is_number hr (pa_cons (pv 0) (pa_cons pe_int (pa_cons (pe_callB call_len_str (by rfl) T.n_len PySem.boot_len (pa_cons (pe_gcn T.g_LETTERS) pa_nil)) pa_nil)))))) 
    (pss_one ps_never) pss_nil)), ?_⟩
    refine s_not (K := K) (et_is (et_not (et_B (ev_pv (z := .bl true) (ea_cons (ev_var rfl) (ea_cons ev_c (ea_cons ev_26' ea_nil))) fun _ _ => ⟨s, 2, 26, rfl, ?_⟩))) rfl) k
    rw [decide_eq_true (show (2 : Int) ≤ (s : Int) by omega), decide_eq_true (show (s : Int) ≤ 26 by omega)]
    rfl
end
end Fw

set_option Elab.async false
set_option linter.all false
set_option maxRecDepth 100000
set_option maxHeartbeats 4000000
namespace Fw
open PySem PySem.Spec PyProof.Rows L2 Evl
theorem at0_get {T : List Int} {k : Nat} (h : k < T.length) : T[k]? = some (at0 T k) := by
  unfold at0
  rw [List.getD_eq_getElem?_getD, List.getElem?_eq_getElem h]
  rfl
theorem rv_iT {K : PySem.W.Frag} {H : Hp} {p : Addr} {T : List Int} {k : Nat} (h : SqL K H p (iV T)) (hk : k < T.length) : RV (rIxL K) (.ref p) (.int (k : Int)) H (.int (at0 T k)) := rv_iL h (at0_get hk)
/-! ### worths -/
abbrev sWorths : Stmt := top 20
def wths (s : Int) (w : Wd) (n : Nat) : List Int := (List.range (n + 1)).map (wth s w)
theorem wths_len (s : Int) (w : Wd) (n : Nat) : (wths s w n).length = n + 1 := by simp [wths]
theorem wths_get {s : Int} {w : Wd} {n k : Nat} (h : k ≤ n) : (wths s w n)[k]? = some (wth s w k) := by
  unfold wths
  rw [List.getElem?_map, List.getElem?_range (by omega)]; rfl
theorem wths_more (s : Int) (w : Wd) (n : Nat) : wths s w (n + 1) = wths s w n ++ [wth s w (n + 1)] := by
  unfold wths
  rw [List.range_succ, List.map_append]; rfl
theorem tabl_wths (s : Int) (w : Wd) : (wths s w w.length).map (fun n => V.int (wth s w w.length - n)) = iV (tabl s w) := by
  unfold wths tabl iV
  rw [List.map_map, List.map_map]
  rfl
def spWorths : Sp := PL fun vs H xs => ∃ (s : Nat) (w : Wd), vs = [.int (s : Int), .str (S w)] ∧ s ≤ 26 ∧ 0 < w.length ∧ w.length ≤ 1000 ∧ xs = iV (wths s w w.length)
section
variable {P : Program} {w : World} {K : PySem.W.Frag} {mg : Str → Option Value} {base : Heap} {f : Addr} {fd : FuncData}
theorem scWorths : FnScope ["sides", "word", "told", "found", "power", "many"] ["sides", "word"] (defScope sWorths) := ⟨rfl, rfl, rfl, by decide +kernel, rfl, by decide +kernel, by decide +kernel⟩
theorem ok_worths (T : Tx K mg) (F : L2.Fun K "worths" "worths" sWorths f fd) (C_backs : Ca P w K mg base 1 "backs" spBacks) : FnOk P w K mg base CX0 2 f fd ["sides", "word"] spWorths := by
  refine F.ok scWorths (fun vs H Q E h => ?_) (fun cdv A outer s H vs Q E hr h => ?_)
  · obtain ⟨z, ⟨_, _, rfl, _⟩, _⟩ := h
    rfl
  · obtain ⟨z, ⟨s, x, rfl, hs, h0, hx, rfl⟩, k⟩ := h
    have hr : Room 1 _ := hr
    have nd := scWorths.nd
    refine ⟨_, (pss_cons (ps_set (i := 2) nd rfl (Or.inl rfl) (pe_ca C_backs hr (pa_cons (pv 1) pa_nil))) 
  (pss_cons (ps_set (i := 3) nd rfl (Or.inl rfl) (pe_lst (pa_cons pe_int pa_nil))) 
  (pss_cons (ps_set (i := 4) nd rfl (Or.inl rfl) pe_int) 
  (pss_cons (ps_for PassesOwn.never rfl (pi_range2 (by rfl) T.n_range (pa_cons pe_int (pa_cons (pe_op op_add (pe_callB call_len_str (by rfl) T.n_len PySem.boot_len (pa_cons (pv 1) pa_nil)) pe_int) pa_nil))) (pg_name (i := 5) nd rfl (Or.inl rfl)) 
    (pss_cons (ps_set (i := 4) nd rfl (Or.inl rfl) (pe_op op_mul (pv 4) (pv 0))) 
    (pss_one (ps_expr (pe_bm PySem.F.plainAttrs_list PySem.F.slot_list_append PySem.F.type_list_append mt_append (pv 3) (pa_cons (pe_op op_add (pv 4) (pe_ix ix_list (pv 3) (pe_ix ix_list (pv 2) (pv 5) (fun _ _ => rfl)) (fun _ _ => rfl))) pa_nil)))))) 
  (pss_one (ps_ret (pv 3))))))), ?_⟩
    refine q_asgL (el_pl (ea_cons (ev_var rfl) ea_nil) fun _ _ => ⟨x, rfl, h0, hx, rfl⟩) fun p H1 hp e1 h1 => ?_
    refine q_asgL (xs := iV (wths s x 0)) (el_lst (ea_cons ev_c ea_nil) (by show 1 ≤ 100000; decide)) fun q H2 hq e2 h2 => ?_
    have hq0 : H q = none := fresh_back e1 hq
    have npq : p ≠ q := ne_of_none h1 hq
    refine q_asg ev_c fun H3 e3 => ?_
    refine q_forR2 (lo := 1) (n := (x.length : Int) + 1) (ea_cons ev_c (ea_cons (ev_op (ev_lenS (ev_var rfl) (by omega)) ev_c rv_I0) ea_nil)) ⟨by omega, by omega, by omega, by omega⟩
      (fun i σ' H' => ∃ a, σ' = [some (.int (s : Int)), some (.str (S x)), some (.ref p), some (.ref q), some (.int ((s : Int) ^ i)), a] ∧ Ex H H' ∧ H' p = some (.lst (iV (nI (backsTo x x.length)))) ∧ H' q = some (.lst (iV (wths s x i))))
      (fun H4 e4 => ⟨none, by rw [Int.pow_zero]; rfl, ((e1.trans e2).trans e3).trans e4, e4 _ _ (e3 _ _ (e2 _ _ h1)), e4 _ _ (e3 _ _ h2)⟩) ?_ ?_
    · rintro i σ' H4 hi ⟨a, rfl, e4, h4p, h4q⟩
      have e0 : (1 : Int) + (i : Int) = ((i + 1 : Nat) : Int) := by omega
      rw [e0]
      refine q_asg (v := .int ((s : Int) ^ (i + 1))) (ev_is (ev_op (ev_var rfl) (ev_var rfl) (rv_mulR (by omega))) (by rw [Int.pow_succ])) fun H5 e5 => ?_
      have hf := fail_lt (w := x) (show 0 < i + 1 by omega)
      refine s_app (v := .int (wth s x (i + 1))) (e5 _ _ h4q) (ev_var rfl) (ev_is (ev_op (ev_var rfl) (ev_op (ev_var rfl) (ev_op (ev_var rfl) (ev_var rfl) (rv_iL (sq_of (e5 _ _ h4p)) (nI_get (backsTo_get (by omega))))) (rv_iL (sq_of (e5 _ _ h4q)) (wths_get (by omega)))) rv_I0) (by rw [wth_more (s := (s : Int)) (w := x) (k := i + 1) (by omega) (by omega)])) (by rw [List.length_map, wths_len]; omega) fun H6 e6 => ?_
      refine ⟨_, rfl, Ex.mut ((e4.trans e5).trans e6) hq0, ?_, ?_⟩
      · rw [upd_ne npq]
        exact e6 _ _ (e5 _ _ h4p)
      · rw [upd_same, wths_more]
        simp
    · rintro σ' H4 ⟨a, rfl, e4, h4p, h4q⟩
      refine s_ret (ev_var rfl) fun H5 e5 => k q H5 hq0 (e4.trans e5) ?_
      have e0 : ((x.length : Int) + 1 - 1).toNat = x.length := by omega
      rw [e0] at h4q
      exact e5 _ _ h4q
end
end Fw

set_option Elab.async false
set_option linter.all false
set_option maxRecDepth 100000
set_option maxHeartbeats 4000000
namespace Fw
open PySem PySem.Spec PyProof.Rows L2 Evl
/-! ### which comes first -/
abbrev sStatesOf : Stmt := top 16
abbrev sRaceInit : Stmt := inClass (top 18) 0
abbrev sCounts : Stmt := top 21
abbrev sAskedPair : Stmt := top 23
abbrev sRace : Stmt := top 24
abbrev sV (L : List Wd) : List V := L.map fun t => V.str (S t)
def spStatesOf : Sp := PL fun vs H xs => ∃ a b : Wd, vs = [.str (S a), .str (S b)] ∧ a.length ≤ 1000 ∧ b.length ≤ 1000 ∧ xs = sV (sts a b)
def spCounts : Sp := PL fun vs H xs => ∃ w t : Wd, vs = [.str (S w), .str (S t)] ∧ 0 < w.length ∧ w.length ≤ 1000 ∧ t.length ≤ 1000 ∧ xs = iV (nI (alongTo w t t.length))
def spAskedPair : Sp := PV fun vs H z => ∃ a b : Wd, vs = [.str (S a), .str (S b)] ∧ ¬ a <:+: b ∧ ¬ b <:+: a ∧ z = .non
/-- the fields of a Race -/
def rf0 (q : Addr) : List (Str × V) := putF "parts" (.ref q) []
def rf (q : Addr) (x : Int) : List (Str × V) := putF "whole" (.int x) (rf0 q)
theorem rf_parts (q : Addr) (x : Int) : (rf q x).lookup ("parts" : Str) = some (.ref q) := by
  unfold rf rf0
  rw [lookup_putF, if_neg (by decide +kernel), lookup_putF, if_pos rfl]
theorem rf_whole (q : Addr) (x : Int) : (rf q x).lookup ("whole" : Str) = some (.int x) := by
  unfold rf
  rw [lookup_putF, if_pos rfl]
theorem rf_no (q : Addr) (x : Int) {m : Str} (h : ¬ m = "whole") (h2 : ¬ m = "parts") : (rf q x).lookup m = none := by
  unfold rf rf0
  rw [lookup_putF, if_neg h, lookup_putF, if_neg h2]
  rfl
structure TxR (K : PySem.W.Frag) (mg : Str → Option Value) (C : Addr) : Prop where
  cl : Cls K C
  nP : NoAttr K C "parts"
  nW : NoAttr K C "whole"
def spRaceInit (C : Addr) : Sp := fun vs H Q _ => ∃ (x l dx : Addr) (T : List Int) (n : Int), vs = [.ref x, .ref l, .int n] ∧ H x = some (.ins C dx []) ∧
  (∀ q, H q = none → Q .non (upd (upd (upd H q (.lst (iV T))) x (.ins C dx (rf0 q))) x (.ins C dx (rf q n)))) ∧ H l = some (.lst (iV T))
/-- what two words are that race tells of -/
structure Two (s : Nat) (a b : Wd) : Prop where
  s2 : 2 ≤ s
  s26 : s ≤ 26
  oa : Over s a
  ob : Over s b
  a0 : 0 < a.length
  b0 : 0 < b.length
  la : a.length ≤ 900
  lb : b.length ≤ 900
  h1 : ¬ a <:+: b
  h2 : ¬ b <:+: a
def spRace (C : Addr) : Sp := fun vs H Q _ => ∃ (s : Nat) (a b : Wd), vs = [.int (s : Int), .str (S a), .str (S b)] ∧ Two s a b ∧
  ∀ (p q dx : Addr) (H2 : Hp), H p = none → H q = none → p ≠ q → Ex H H2 → H2 p = some (.ins C dx (rf q (mine s a b + mine s b a))) → H2 q = some (.lst (iV ((sts a b).map (pr s a b)))) → Q (.ref p) H2
section
variable {P : Program} {w : World} {K : PySem.W.Frag} {mg : Str → Option Value} {base : Heap} {f C : Addr} {fd : FuncData}
theorem scStatesOf : FnScope ["one", "other", "found", "word", "many"] ["one", "other"] (defScope sStatesOf) := ⟨rfl, rfl, rfl, by decide +kernel, rfl, by decide +kernel, by decide +kernel⟩
theorem ok_states_of (T : Tx K mg) (F : L2.Fun K "states_of" "states_of" sStatesOf f fd) : FnOk P w K mg base CX0 1 f fd ["one", "other"] spStatesOf := by
  refine F.ok scStatesOf (fun vs H Q E h => ?_) (fun cdv A outer s H vs Q E hr h => ?_)
  · obtain ⟨z, ⟨_, _, rfl, _⟩, _⟩ := h
    rfl
  · obtain ⟨z, ⟨a, b, rfl, la, lb, rfl⟩, k⟩ := h
    have nd := scStatesOf.nd
    have hu := hu_of hr
    refine ⟨_, (pss_cons (ps_set (i := 2) nd rfl (Or.inl rfl) pe_dnewK) 
  (pss_cons (ps_for PassesOwn.never rfl (pi_tup (pe_tup (pa_cons (pv 0) (pa_cons (pv 1) pa_nil)))) (pg_name (i := 3) nd rfl (Or.inl rfl)) 
    (pss_one (ps_for PassesOwn.never rfl (pi_range1 (by rfl) T.n_range (pa_cons (pe_op op_add (pe_callB call_len_str (by rfl) T.n_len PySem.boot_len (pa_cons (pv 3) pa_nil)) pe_int) pa_nil)) (pg_name (i := 4) nd rfl (Or.inl rfl)) 
      (pss_one (ps_dput hu (pv 2) (pe_slice sl_str (pv 3) po_none (po_some (pv 4))) pe_bl rfl))))) 
  (pss_one (ps_ret (pe_callB (call_sortedDS rfl) (by rfl) T.n_sorted (by decide +kernel) (pa_cons (pv 2) pa_nil)))))), ?_⟩
    refine q_dnew fun d hd => ?_
    refine q_forNT (xs := [.str (S a), .str (S b)]) (eu_tup (ea_cons (ev_var rfl) (ea_cons (ev_var rfl) ea_nil)) (by show 2 ≤ 100000; decide))
      (fun p j σ' H' => ∃ u v kvs ks, σ' = [some (.str (S a)), some (.str (S b)), some (.ref d), u, v] ∧ Ex H H' ∧ H' p = some (.tup [.str (S a), .str (S b)]) ∧ H' d = some (.dK kvs) ∧ DKeys kvs ks ∧ kvs.length ≤ j * 1001 ∧ (∀ t ∈ ks, t <+: a ∨ t <+: b) ∧ (0 < j → ∀ t, t <+: a → t ∈ ks) ∧ (1 < j → ∀ t, t <+: b → t ∈ ks))
      (fun p H1 hp e1 h1 => ⟨none, none, [], [], rfl, (Ex.new hd).trans e1, h1, e1 _ _ upd_same, DKeys.nil, Nat.le_refl _, by simp, by omega, by omega⟩) (fun p j σ' H' ⟨_, _, _, _, _, _, h, _⟩ => st_of h) ?_ ?_
    · rintro p j v σ' H1 hj ⟨u0, v0, kvs, ks, rfl, e1, h1p, h1d, hk, hl, hin, ha, hb⟩
      obtain ⟨x, rfl, hx, hj2, hxa⟩ : ∃ x : Wd, v = .str (S x) ∧ x.length ≤ 1000 ∧ j < 2 ∧ ((j = 0 ∧ x = a) ∨ (j = 1 ∧ x = b)) := by
        match j, hj with
        | 0, hj => exact ⟨a, (Option.some.inj hj).symm, la, by omega, Or.inl ⟨rfl, rfl⟩⟩
        | 1, hj => exact ⟨b, (Option.some.inj hj).symm, lb, by omega, Or.inr ⟨rfl, rfl⟩⟩
        | j + 2, hj => simp at hj
      have npd : p ≠ d := ne_of h1p h1d (by intro z; cases z)
      refine s_forR1 (n := (x.length : Int) + 1) (ea_cons (ev_op (ev_lenS (ev_var rfl) (by omega)) ev_c rv_I0) ea_nil) ⟨by omega, by omega⟩
        (fun i σ' H' => ∃ v kvs ks', σ' = [some (.str (S a)), some (.str (S b)), some (.ref d), some (.str (S x)), v] ∧ Ex H H' ∧ H' p = some (.tup [.str (S a), .str (S b)]) ∧ H' d = some (.dK kvs) ∧ DKeys kvs ks' ∧ kvs.length ≤ j * 1001 + i ∧ (∀ t, t ∈ ks' → t <+: x ∨ t ∈ ks) ∧ (∀ t ∈ ks, t ∈ ks') ∧ ∀ k, k < i → x.take k ∈ ks')
        (fun H2 e2 => ⟨v0, kvs, ks, rfl, e1.trans e2, e2 _ _ h1p, e2 _ _ h1d, hk, by omega, fun t => Or.inr, fun t => id, fun k hk => by omega⟩) ?_ ?_
      · rintro i σ' H2 hi ⟨v, kvs, ks', rfl, e2, h2p, h2d, hk', hl', hin', hsub, hall⟩
        refine s_dput (t := x.take i) h2d (by omega) ev_c (ev_var rfl) (ev_to (ev_var rfl) (eo_is (ev_var rfl) rfl) (by omega)) fun H3 e3 => ?_
        obtain ⟨ks2, k2, hm⟩ := hk'.put (x.take i) (.bl true)
        refine ⟨_, _, ks2, rfl, Ex.mut (e2.trans e3) hd, by rw [upd_ne npd]; exact e3 _ _ h2p, upd_same, k2, ?_, fun t ht => ?_, fun t ht => (hm t).mpr (Or.inr (hsub t ht)), fun k hk => ?_⟩
        · have := putK_le kvs (kS (x.take i)) (.bl true)
          omega
        · rcases (hm t).mp ht with e | e
          · exact Or.inl (e ▸ List.take_prefix i x)
          · exact hin' t e
        · by_cases e : k = i
          · subst e
            exact (hm _).mpr (Or.inl rfl)
          · exact (hm _).mpr (Or.inr (hall k (by omega)))
      · rintro σ' H2 ⟨v, kvs2, ks', rfl, e2, h2p, h2d, hk', hl', hin', hsub, hall⟩
        have hall' : ∀ t, t <+: x → t ∈ ks' := fun t ht => by
          rw [List.prefix_iff_eq_take.mp ht]
          exact hall _ (by have := ht.length_le; omega)
        refine ⟨_, _, kvs2, ks', rfl, e2, h2p, h2d, hk', by rw [Nat.add_mul]; omega, fun t ht => ?_, fun _ t ht => ?_, fun h1 t ht => ?_⟩
        · rcases hin' t ht with q | q
          · rcases hxa with ⟨_, rfl⟩ | ⟨_, rfl⟩
            · exact Or.inl q
            · exact Or.inr q
          · exact hin t q
        · rcases hxa with ⟨_, rfl⟩ | ⟨rfl, _⟩
          · exact hall' t ht
          · exact hsub t (ha (by omega) t ht)
        · rcases hxa with ⟨rfl, _⟩ | ⟨_, rfl⟩
          · omega
          · exact hall' t ht
    · rintro p σ' H1 ⟨u0, v0, kvs, ks, rfl, e1, h1p, h1d, hk, hl, hin, ha, hb⟩
      refine s_retDS (ev_var rfl) h1d hk fun ys q H2 hp up hq e2 h2 => k q H2 (fresh_back e1 hq) (e1.trans e2) ?_
      have e : ys = sts a b := IsSts.uniq (a := a) (b := b) ⟨up, fun t => ⟨fun ht => hin t (hp.mem_iff.mp ht), fun ht => hp.mem_iff.mpr (ht.elim (ha (by show 0 < 2; decide) t) (hb (by show 1 < 2; decide) t))⟩⟩ (sts_is a b)
      rw [h2, e]
theorem scRaceInit : FnScope ["self", "parts", "whole"] ["self", "parts", "whole"] (defScope sRaceInit) := ⟨rfl, rfl, rfl, by decide +kernel, rfl, by decide +kernel, by decide +kernel⟩
theorem ok_race_init (T : Tx K mg) (TR : TxR K mg C) (F : L2.Fun K "__init__" "Race.__init__" sRaceInit f fd) : FnOk P w K mg base CX0 1 f fd ["self", "parts", "whole"] (spRaceInit C) := by
  refine F.ok scRaceInit (fun vs H Q E h => ?_) (fun cdv A outer s H vs Q E hr h => ?_)
  · obtain ⟨_, _, _, _, _, rfl, _⟩ := h
    rfl
  · obtain ⟨x, l, dx, T', n, rfl, hx, k, hl⟩ := h
    refine ⟨_, (pss_cons (ps_fld (pv 0) (pe_callTy call_list_of (by rfl) T.n_list (by decide +kernel) (pa_cons (pv 1) pa_nil)) rfl) 
  (pss_one (ps_fld (pv 0) (pv 2) rfl))), ?_⟩
    refine ⟨_, rfl, l, _, rfl, Or.inl (sq_of hl), fun q hq => ?_⟩
    refine ⟨_, rfl, x, C, dx, [], rfl, (upd_ne (ne_of_none hx hq)).trans hx, TR.cl, TR.nP, by show 0 < 1000; decide, ?_⟩
    exact ⟨_, rfl, _, rfl, x, C, dx, _, rfl, upd_same, TR.cl, TR.nW, by show 1 < 1000; decide, k q hq⟩
theorem scCounts : FnScope ["word", "throws", "told", "found", "letter"] ["word", "throws"] (defScope sCounts) := ⟨rfl, rfl, rfl, by decide +kernel, rfl, by decide +kernel, by decide +kernel⟩
theorem ok_counts (T : Tx K mg) (F : L2.Fun K "counts_along" "counts_along" sCounts f fd) (C_backs : Ca P w K mg base 1 "backs" spBacks) (C_next_count : Ca P w K mg base 1 "next_count" (spNext K)) : FnOk P w K mg base CX0 2 f fd ["word", "throws"] spCounts := by
  refine F.ok scCounts (fun vs H Q E h => ?_) (fun cdv A outer s H vs Q E hr h => ?_)
  · obtain ⟨z, ⟨_, _, rfl, _⟩, _⟩ := h
    rfl
  · obtain ⟨z, ⟨x, t, rfl, h0, hx, ht, rfl⟩, k⟩ := h
    have hr : Room 1 _ := hr
    have nd := scCounts.nd
    refine ⟨_, (pss_cons (ps_set (i := 2) nd rfl (Or.inl rfl) (pe_ca C_backs hr (pa_cons (pv 0) pa_nil))) 
  (pss_cons (ps_set (i := 3) nd rfl (Or.inl rfl) (pe_lst (pa_cons pe_int pa_nil))) 
  (pss_cons (ps_for PassesOwn.never rfl (pi_str (pv 1)) (pg_name (i := 4) nd rfl (Or.inl rfl)) 
    (pss_one (ps_expr (pe_bm PySem.F.plainAttrs_list PySem.F.slot_list_append PySem.F.type_list_append mt_append (pv 3) (pa_cons (pe_ca C_next_count hr (pa_cons (pv 0) (pa_cons (pv 2) (pa_cons (pe_ix ix_list (pv 3) (pe_un un_neg pe_int) (fun _ _ => rfl)) (pa_cons (pv 4) pa_nil))))) pa_nil))))) 
  (pss_one (ps_ret (pv 3)))))), ?_⟩
    refine q_asgL (el_pl (ea_cons (ev_var rfl) ea_nil) fun _ _ => ⟨x, rfl, h0, hx, rfl⟩) fun p H1 hp e1 h1 => ?_
    refine q_asgL (xs := iV (nI (alongTo x t 0))) (el_lst (ea_cons (ev_is ev_c (by show V.int 0 = V.int ((lng x (t.take 0) : Nat) : Int); rw [List.take_zero, lng_nil]; rfl)) ea_nil) (by show 1 ≤ 100000; decide)) fun q H2 hq e2 h2 => ?_
    have hq0 : H q = none := fresh_back e1 hq
    have npq : p ≠ q := ne_of_none h1 hq
    refine q_forS (ev_var rfl) (fun i σ' H' => ∃ a, σ' = [some (.str (S x)), some (.str (S t)), some (.ref p), some (.ref q), a] ∧ Ex H H' ∧ i ≤ t.length ∧ H' p = some (.lst (iV (nI (backsTo x x.length)))) ∧ H' q = some (.lst (iV (nI (alongTo x t i)))))
      (fun H3 e3 => ⟨none, rfl, (e1.trans e2).trans e3, Nat.zero_le _, e3 _ _ (e2 _ _ h1), e3 _ _ h2⟩) ?_ ?_
    · rintro i c σ' H3 hc ⟨a, rfl, e3, hi, h3p, h3q⟩
      have hi1 := (List.getElem?_eq_some_iff.mp hc).1
      refine s_app (v := .int (lng x (t.take (i + 1)) : Nat)) h3q (ev_var rfl) (ev_pv (ea_cons (ev_var rfl) (ea_cons (ev_var rfl) (ea_cons (ev_op (ev_var rfl) (ev_un ev_c ru_neg) (rv_iLast (v := (lng x (t.take i) : Nat)) (sq_of h3q) (by simp [alongTo_len]) ?_)) (ea_cons (ev_var rfl) ea_nil)))) fun H4 e4 => ⟨x, p, lng x (t.take i), c, rfl, sq_of (e4 _ _ h3p), lng_le _ _, h0, hx, ?_⟩) (by simp [alongTo_len]; omega) fun H4 e4 => ?_
      · rw [List.length_map, alongTo_len]
        exact nI_get (alongTo_get (by omega))
      · rw [take_more hc, lng_snoc]
      · refine ⟨_, rfl, Ex.mut (e3.trans e4) hq0, hi1, ?_, ?_⟩
        · rw [upd_ne npq]
          exact e4 _ _ h3p
        · rw [upd_same, alongTo_more]
          simp
    · rintro σ' H3 ⟨a, rfl, e3, hi, h3p, h3q⟩
      exact s_ret (ev_var rfl) fun H4 e4 => k q H4 hq0 (e3.trans e4) (e4 _ _ h3q)
theorem scAskedPair : FnScope ["one", "other"] ["one", "other"] (defScope sAskedPair) := ⟨rfl, rfl, rfl, by decide +kernel, rfl, by decide +kernel, by decide +kernel⟩
theorem ok_asked_pair (T : Tx K mg) (F : L2.Fun K "asked_pair" "asked_pair" sAskedPair f fd) : FnOk P w K mg base CX0 1 f fd ["one", "other"] spAskedPair := by
  refine F.ok scAskedPair (fun vs H Q E h => ?_) (fun cdv A outer s H vs Q E hr h => ?_)
  · obtain ⟨z, ⟨_, _, rfl, _⟩, _⟩ := h
    rfl
  · obtain ⟨z, ⟨a, b, rfl, h1, h2, rfl⟩, k⟩ := h
    refine ⟨_, (pss_one (ps_if (PW.pt (pw_or (pt_cmpR op_in_str (pv 0) (pv 1) rfl) (pw_or1 (pt_cmpR op_in_str (pv 1) (pv 0) rfl)))) 
    (pss_one ps_never) pss_nil)), ?_⟩
    exact s_not (K := K) (et_is (et_or (a := false) (b := false) (et_is (et_test (ev_op (ev_var rfl) (ev_var rfl) rv_inS)) (decide_eq_false h1)) fun _ => et_is (et_test (ev_op (ev_var rfl) (ev_var rfl) rv_inS)) (decide_eq_false h2)) rfl) k
abbrev raceN : List Str := ["sides", "one", "other", "ours", "others", "mine", "theirs", "part", "many", "count", "state"]
theorem scRace : FnScope raceN ["sides", "one", "other"] (defScope sRace) := ⟨rfl, rfl, rfl, by decide +kernel, rfl, by decide +kernel, by decide +kernel⟩
/-- the dict of race: each number that stands in it is the state's -/
structure PInv (f : Wd → Int) (kvs : List (Key × V)) : Prop where
  is : ∀ t v, valV kvs (kS t) = some v → v = .int (f t)
theorem PInv.put {f : Wd → Int} {kvs : List (Key × V)} (h : PInv f kvs) (t : Wd) : PInv f (putK kvs (kS t) (.int (f t))) := ⟨fun u v e => by
  rw [valV_put] at e
  by_cases q : kS u = kS t
  · rw [if_pos q] at e
    rw [kS_inj.mp q]
    exact (Option.some.inj e).symm
  · rw [if_neg q] at e
    exact h.is u v e⟩
theorem has_put {kvs : List (Key × V)} {t u : Wd} {v : V} (h : u = t ∨ (valV kvs (kS u)).isSome = true) : (valV (putK kvs (kS t) v) (kS u)).isSome = true := by
  rw [valV_put]
  by_cases q : kS u = kS t
  · rw [if_pos q]; rfl
  · rw [if_neg q]
    rcases h with e | e
    · exact absurd (kS_inj.mpr e) q
    · exact e
theorem ok_race (T : Tx K mg) (TR : TxR K mg C) (F : L2.Fun K "race" "race" sRace f fd) (C_asked_sides : Ca P w K mg base 2 "asked_sides" spAskedSides) (C_asked_word : Ca P w K mg base 2 "asked_word" spAskedWord) (C_asked_pair : Ca P w K mg base 1 "asked_pair" spAskedPair) (C_worths : Ca P w K mg base 2 "worths" spWorths)
    (C_counts_along : Ca P w K mg base 2 "counts_along" spCounts) (C_states_of : Ca P w K mg base 1 "states_of" spStatesOf) (N_Race : Ma P w K mg base 1 "Race" C (spRaceInit C)) : FnOk P w K mg base CX0 3 f fd ["sides", "one", "other"] (spRace C) := by
  refine F.ok scRace (fun vs H Q E h => ?_) (fun cdv A outer s H vs Q E hr h => ?_)
  · obtain ⟨_, _, _, rfl, _⟩ := h
    rfl
  · obtain ⟨s, a, b, rfl, D, k⟩ := h
    have hr : Room 2 _ := hr
    have hu := hu_of hr
    have nd := scRace.nd
    have la := D.la
    have lb := D.lb
    refine ⟨_, (pss_cons (ps_expr (pe_ca C_asked_sides hr (pa_cons (pv 0) pa_nil))) 
  (pss_cons (ps_expr (pe_ca C_asked_word hr (pa_cons (pv 1) (pa_cons (pv 0) pa_nil)))) 
  (pss_cons (ps_expr (pe_ca C_asked_word hr (pa_cons (pv 2) (pa_cons (pv 0) pa_nil)))) 
  (pss_cons (ps_expr (pe_ca C_asked_pair hr (pa_cons (pv 1) (pa_cons (pv 2) pa_nil)))) 
  (pss_cons (ps_set (i := 3) nd rfl (Or.inl rfl) (pe_ca C_worths hr (pa_cons (pv 0) (pa_cons (pv 1) pa_nil)))) 
  (pss_cons (ps_set (i := 4) nd rfl (Or.inl rfl) (pe_ca C_worths hr (pa_cons (pv 0) (pa_cons (pv 2) pa_nil)))) 
  (pss_cons (ps_set (i := 5) nd rfl (Or.inl rfl) (pe_op op_sub (pe_ix ix_list (pv 4) (pe_un un_neg pe_int) (fun _ _ => rfl)) (pe_ix ix_list (pv 3) (pe_ix ix_list (pe_ca C_counts_along hr (pa_cons (pv 1) (pa_cons (pv 2) pa_nil))) (pe_un un_neg pe_int) (fun _ _ => rfl)) (fun _ _ => rfl)))) 
  (pss_cons (ps_set (i := 6) nd rfl (Or.inl rfl) (pe_op op_sub (pe_ix ix_list (pv 3) (pe_un un_neg pe_int) (fun _ _ => rfl)) (pe_ix ix_list (pv 4) (pe_ix ix_list (pe_ca C_counts_along hr (pa_cons (pv 2) (pa_cons (pv 1) pa_nil))) (pe_un un_neg pe_int) (fun _ _ => rfl)) (fun _ _ => rfl)))) 
  (pss_cons (ps_set (i := 7) nd rfl (Or.inr rfl) pe_dnewK) 
  (pss_cons (ps_for PassesOwn.never rfl (pi_enum (by rfl) T.n_enumerate (pa_cons (pe_ca C_counts_along hr (pa_cons (pv 1) (pa_cons (pv 2) pa_nil))) pa_nil)) (pg_tup rfl (pgs_cons (pg_name (i := 8) nd rfl (Or.inl rfl)) (pgs_cons (pg_name (i := 9) nd rfl (Or.inl rfl)) pgs_nil))) 
    (pss_one (ps_dput hu (pv 7) (pe_slice sl_str (pv 2) po_none (po_some (pv 8))) (pe_op op_sub (pe_op op_add (pv 5) (pe_ix ix_list (pv 3) (pv 9) (fun _ _ => rfl))) (pe_ix ix_list (pv 4) (pv 8) (fun _ _ => rfl))) rfl))) 
  (pss_cons (ps_for PassesOwn.never rfl (pi_enum (by rfl) T.n_enumerate (pa_cons (pe_ca C_counts_along hr (pa_cons (pv 2) (pa_cons (pv 1) pa_nil))) pa_nil)) (pg_tup rfl (pgs_cons (pg_name (i := 8) nd rfl (Or.inl rfl)) (pgs_cons (pg_name (i := 9) nd rfl (Or.inl rfl)) pgs_nil))) 
    (pss_one (ps_dput hu (pv 7) (pe_slice sl_str (pv 1) po_none (po_some (pv 8))) (pe_op op_sub (pe_op op_add (pv 5) (pe_ix ix_list (pv 3) (pv 8) (fun _ _ => rfl))) (pe_ix ix_list (pv 4) (pv 9) (fun _ _ => rfl))) rfl))) 
  (pss_cons (ps_dput hu (pv 7) (pv 1) (pe_op op_add (pv 5) (pv 6)) rfl) 
  (pss_cons (ps_dput hu (pv 7) (pv 2) pe_int rfl) 
  (pss_one (ps_ret (pe_ma N_Race hr (pa_cons (pe_lc (own := [("state", 10)]) (g := gName 10) (by rfl) nd (pi_list (pe_ca C_states_of hr (pa_cons (pv 1) (pa_cons (pv 2) pa_nil)))) (blkOk_by (own := [("state", 10)]) (N := raceN) (sc := defScope sRace) (by decide +kernel)) (fun _ _ _ _ _ => pg_name (i := 10) nd rfl (Or.inl rfl)) (fun _ _ _ _ _ => pts_nil) (fun _ _ _ _ _ => (pe_dget hu (pv 7) (pv 10) (fun _ _ => rfl)))) (pa_cons (pe_op op_add (pv 5) (pv 6)) pa_nil)))))))))))))))))), ?_⟩
    refine q_drop (v := .non) (ev_pv (ea_cons (ev_var rfl) ea_nil) fun _ _ => ⟨s, rfl, D.s2, D.s26, rfl⟩) fun H1 e1 => ?_
    refine q_drop (v := .non) (ev_pv (ea_cons (ev_var rfl) (ea_cons (ev_var rfl) ea_nil)) fun _ _ => ⟨a, s, rfl, D.s26, by omega, D.oa, D.a0, rfl⟩) fun H2 e2 => ?_
    refine q_drop (v := .non) (ev_pv (ea_cons (ev_var rfl) (ea_cons (ev_var rfl) ea_nil)) fun _ _ => ⟨b, s, rfl, D.s26, by omega, D.ob, D.b0, rfl⟩) fun H3 e3 => ?_
    refine q_drop (v := .non) (ev_pv (ea_cons (ev_var rfl) (ea_cons (ev_var rfl) ea_nil)) fun _ _ => ⟨a, b, rfl, D.h1, D.h2, rfl⟩) fun H4 e4 => ?_
    refine q_asgL (el_pl (ea_cons (ev_var rfl) (ea_cons (ev_var rfl) ea_nil)) fun _ _ => ⟨s, a, rfl, D.s26, D.a0, by omega, rfl⟩) fun p1 H5 hp1 e5 h5 => ?_
    refine q_asgL (el_pl (ea_cons (ev_var rfl) (ea_cons (ev_var rfl) ea_nil)) fun _ _ => ⟨s, b, rfl, D.s26, D.b0, by omega, rfl⟩) fun p2 H6 hp2 e6 h6 => ?_
    have h61 := e6 _ _ h5
    have e06 := ((((e1.trans e2).trans e3).trans e4).trans e5).trans e6
    have last : ∀ x : Wd, (wths (s : Int) x x.length)[(wths (s : Int) x x.length).length - 1]? = some (wth s x x.length) := fun x => by
      rw [wths_len]
      exact wths_get (by omega)
    have lastA : ∀ x y : Wd, atI (iV (nI (alongTo x y y.length))) (-1) = some (.int (lng x y : Nat)) := fun x y => by
      refine atI_neg1 ?_ (by simp [alongTo_len])
      rw [List.length_map, List.length_map, alongTo_len, List.getElem?_map, nI_get (alongTo_get (by omega))]
      rw [Nat.add_sub_cancel, List.take_length]
      rfl
    refine q_asg (v := .int (mine s a b)) (ev_op (ev_op (ev_var rfl) (ev_un ev_c ru_neg) (rv_iLast (sq_of h6) (by rw [wths_len]; omega) (last b))) (ev_op (ev_var rfl) (ev_ixLm (el_pl (ea_cons (ev_var rfl) (ea_cons (ev_var rfl) ea_nil)) fun _ _ => ⟨a, b, rfl, D.a0, by omega, by omega, rfl⟩) (ev_un ev_c ru_neg) (lastA a b)) (rv_iL (sq_of h61) (wths_get (lng_le a b)))) rv_I0) fun H7 e7 => ?_
    have h71 := e7 _ _ h61
    have h72 := e7 _ _ h6
    refine q_asg (v := .int (mine s b a)) (ev_op (ev_op (ev_var rfl) (ev_un ev_c ru_neg) (rv_iLast (sq_of h71) (by rw [wths_len]; omega) (last a))) (ev_op (ev_var rfl) (ev_ixLm (el_pl (ea_cons (ev_var rfl) (ea_cons (ev_var rfl) ea_nil)) fun _ _ => ⟨b, a, rfl, D.b0, by omega, by omega, rfl⟩) (ev_un ev_c ru_neg) (lastA b a)) (rv_iL (sq_of h72) (wths_get (lng_le b a)))) rv_I0) fun H8 e8 => ?_
    have e08 := (e06.trans e7).trans e8
    refine q_dnew fun d hd => ?_
    have hd0 : H d = none := fresh_back e08 hd
    have h81 := e8 _ _ h71
    have h82 := e8 _ _ h72
    have n1 : p1 ≠ d := ne_of_none h81 hd
    have n2 : p2 ≠ d := ne_of_none h82 hd
    -- the states of the other word
    refine q_forE (K := K) (xs := iV (nI (alongTo a b b.length))) (ea_new (el_pl (ea_cons (ev_var rfl) (ea_cons (ev_var rfl) ea_nil)) fun _ _ => ⟨a, b, rfl, D.a0, by omega, by omega, rfl⟩))
      (fun r i σ' H' => ∃ u v kvs, σ' = [some (.int (s : Int)), some (.str (S a)), some (.str (S b)), some (.ref p1), some (.ref p2), some (.int (mine s a b)), some (.int (mine s b a)), some (.ref d), u, v, none] ∧ Ex H H' ∧ H' p1 = some (.lst (iV (wths s a a.length))) ∧ H' p2 = some (.lst (iV (wths s b b.length))) ∧
        H' r = some (.lst (iV (nI (alongTo a b b.length)))) ∧ H' d = some (.dK kvs) ∧ PInv (pr s a b) kvs ∧ kvs.length ≤ i ∧ ∀ k, k < i → (valV kvs (kS (b.take k))).isSome = true)
      (fun r H9 hr9 e9 h9 => ⟨none, none, [], rfl, (Ex.mut e08 hd0).trans e9, e9 _ _ ((upd_ne n1).trans h81), e9 _ _ ((upd_ne n2).trans h82), h9, e9 _ _ upd_same, ⟨fun t v e => by cases e⟩, Nat.le_refl _, fun k hk => by omega⟩)
      (fun r i σ' H' ⟨_, _, _, _, _, _, _, h, _⟩ => sq_of h) ?_ ?_
    · rintro r i x σ' H9 hx ⟨u, v, kvs, rfl, e9, h91, h92, h9r, h9d, hI, hl, hall⟩ H10 e10
      have hi : i ≤ b.length := by
        have := (List.getElem?_eq_some_iff.mp hx).1
        rw [List.length_map, List.length_map, alongTo_len] at this
        omega
      have ex : x = .int (lng a (b.take i) : Nat) := by
        rw [List.getElem?_map, nI_get (alongTo_get hi)] at hx
        exact (Option.some.inj hx).symm
      subst ex
      have nrd : r ≠ d := ne_of h9r h9d (by intro z; cases z)
      have hlk := lng_le a (b.take i)
      refine s_dput (t := b.take i) (v := .int (pr s a b (b.take i))) (e10 _ _ h9d) (by omega) (ev_is (ev_op (ev_op (ev_var rfl) (ev_op (ev_var rfl) (ev_var rfl) (rv_iL (sq_of (e10 _ _ h91)) (wths_get hlk))) rv_I0) (ev_op (ev_var rfl) (ev_var rfl) (rv_iL (sq_of (e10 _ _ h92)) (wths_get hi))) rv_I0) (by rw [pr_two hi])) (ev_var rfl) (ev_to (ev_var rfl) (eo_is (ev_var rfl) rfl) (by omega)) fun H11 e11 => ?_
      have e := e10.trans e11
      refine ⟨_, _, _, rfl, Ex.mut (e9.trans e) hd0, by rw [upd_ne n1]; exact e _ _ h91, by rw [upd_ne n2]; exact e _ _ h92, by rw [upd_ne nrd]; exact e _ _ h9r, upd_same, hI.put _, by have := putK_le kvs (kS (b.take i)) (.int (pr s a b (b.take i))); omega, fun k hk => has_put ?_⟩
      by_cases q : k = i
      · exact Or.inl (by rw [q])
      · exact Or.inr (hall k (by omega))
    · rintro r σ' H9 ⟨u, v, kvs, rfl, e9, h91, h92, h9r, h9d, hI, hl, hall⟩
      have hallb : ∀ t, t <+: b → (valV kvs (kS t)).isSome = true := fun t ht => by
        rw [List.prefix_iff_eq_take.mp ht]
        exact hall _ (by rw [List.length_map, List.length_map, alongTo_len]; have := ht.length_le; omega)
      have hl1 : kvs.length ≤ 1000 := by
        rw [List.length_map, List.length_map, alongTo_len] at hl
        omega
      -- the states of the first word
      refine q_forE (K := K) (xs := iV (nI (alongTo b a a.length))) (ea_new (el_pl (ea_cons (ev_var rfl) (ea_cons (ev_var rfl) ea_nil)) fun _ _ => ⟨b, a, rfl, D.b0, by omega, by omega, rfl⟩))
        (fun r i σ' H' => ∃ u v kvs, σ' = [some (.int (s : Int)), some (.str (S a)), some (.str (S b)), some (.ref p1), some (.ref p2), some (.int (mine s a b)), some (.int (mine s b a)), some (.ref d), u, v, none] ∧ Ex H H' ∧ H' p1 = some (.lst (iV (wths s a a.length))) ∧ H' p2 = some (.lst (iV (wths s b b.length))) ∧
          H' r = some (.lst (iV (nI (alongTo b a a.length)))) ∧ H' d = some (.dK kvs) ∧ PInv (pr s a b) kvs ∧ kvs.length ≤ 1000 + i ∧ (∀ t, t <+: b → (valV kvs (kS t)).isSome = true) ∧ ∀ k, k < i → (valV kvs (kS (a.take k))).isSome = true)
        (fun r H10 hr10 e10 h10 => ⟨_, _, kvs, rfl, e9.trans e10, e10 _ _ h91, e10 _ _ h92, h10, e10 _ _ h9d, hI, by omega, hallb, fun k hk => by omega⟩)
        (fun r i σ' H' ⟨_, _, _, _, _, _, _, h, _⟩ => sq_of h) ?_ ?_
      · rintro r i x σ' H9 hx ⟨u, v, kvs, rfl, e9, h91, h92, h9r, h9d, hI, hl, hallb, hall⟩ H10 e10
        have hi : i ≤ a.length := by
          have := (List.getElem?_eq_some_iff.mp hx).1
          rw [List.length_map, List.length_map, alongTo_len] at this
          omega
        have ex : x = .int (lng b (a.take i) : Nat) := by
          rw [List.getElem?_map, nI_get (alongTo_get hi)] at hx
          exact (Option.some.inj hx).symm
        subst ex
        have nrd : r ≠ d := ne_of h9r h9d (by intro z; cases z)
        have hlk := lng_le b (a.take i)
        refine s_dput (t := a.take i) (v := .int (pr s a b (a.take i))) (e10 _ _ h9d) (by omega) (ev_is (ev_op (ev_op (ev_var rfl) (ev_op (ev_var rfl) (ev_var rfl) (rv_iL (sq_of (e10 _ _ h91)) (wths_get hi))) rv_I0) (ev_op (ev_var rfl) (ev_var rfl) (rv_iL (sq_of (e10 _ _ h92)) (wths_get hlk))) rv_I0) (by rw [pr_one hi])) (ev_var rfl) (ev_to (ev_var rfl) (eo_is (ev_var rfl) rfl) (by omega)) fun H11 e11 => ?_
        have e := e10.trans e11
        refine ⟨_, _, _, rfl, Ex.mut (e9.trans e) hd0, by rw [upd_ne n1]; exact e _ _ h91, by rw [upd_ne n2]; exact e _ _ h92, by rw [upd_ne nrd]; exact e _ _ h9r, upd_same, hI.put _, by have := putK_le kvs (kS (a.take i)) (.int (pr s a b (a.take i))); omega, fun t ht => has_put (Or.inr (hallb t ht)), fun k hk => has_put ?_⟩
        by_cases q : k = i
        · exact Or.inl (by rw [q])
        · exact Or.inr (hall k (by omega))
      · rintro r σ' H9 ⟨u, v, kvs, rfl, e9, h91, h92, h9r, h9d, hI, hl, hallb, hall⟩
        have halla : ∀ t, t <+: a → (valV kvs (kS t)).isSome = true := fun t ht => by
          rw [List.prefix_iff_eq_take.mp ht]
          exact hall _ (by rw [List.length_map, List.length_map, alongTo_len]; have := ht.length_le; omega)
        have hl2 : kvs.length ≤ 2000 := by
          rw [List.length_map, List.length_map, alongTo_len] at hl
          omega
        refine q_dput (t := a) (v := .int (pr s a b a)) h9d (by omega) (ev_is (ev_op (ev_var rfl) (ev_var rfl) rv_I0) (by rw [pr_fst])) (ev_var rfl) (ev_var rfl) fun H10 e10 => ?_
        have hI2 := hI.put a
        have hk2 := putK_le kvs (kS a) (.int (pr s a b a))
        refine q_dput (t := b) (v := .int (pr s a b b)) upd_same (by omega) (ev_is ev_c (by rw [pr_snd])) (ev_var rfl) (ev_var rfl) fun H11 e11 => ?_
        have hI3 := hI2.put b
        have e011 := Ex.mut (o := .dK (putK (putK kvs (kS a) (.int (pr s a b a))) (kS b) (.int (pr s a b b)))) ((Ex.mut (o := .dK (putK kvs (kS a) (.int (pr s a b a)))) (e9.trans e10) hd0).trans e11) hd0
        generalize hkv : putK (putK kvs (kS a) (.int (pr s a b a))) (kS b) (.int (pr s a b b)) = kv at hI3 e011
        have hsome : ∀ t, t ∈ sts a b → valV kv (kS t) = some (.int (pr s a b t)) := fun t ht => by
          have hs : (valV kv (kS t)).isSome = true := by
            rw [← hkv]
            exact has_put (Or.inr (has_put (Or.inr (((sts_is a b).mem t).mp ht |>.elim (halla t) (hallb t)))))
          obtain ⟨v, hv⟩ := Option.isSome_iff_exists.mp hs
          rw [hv, hI3.is t v hv]
        have hsl := sts_len a b
        refine s_retMk2 (xs := iV ((sts a b).map (pr s a b))) (by
          rw [iV, List.map_map]
          exact el_lcV (a := fun t => V.str (S t)) (fun t => V.int (pr s a b t)) (el_pl (ea_cons (ev_var rfl) (ea_cons (ev_var rfl) ea_nil)) fun _ _ => ⟨a, b, rfl, by omega, by omega, rfl⟩) (by omega) (fun _ => rfl) fun t ht H12 e12 => ev_dget (ev_var rfl) (ev_var rfl) (e12 _ _ upd_same) (hsome t ht)) (ev_op (ev_var rfl) (ev_var rfl) rv_I0) fun l H12 hl12 e12 h12 p dx hp hdx hne => ?_
        have npl : l ≠ p := ne_of_none h12 hp
        have ndl : l ≠ dx := ne_of_none h12 hdx
        refine ⟨p, l, dx, _, _, rfl, upd_same, fun q hq => ⟨rfl, ?_⟩, by rw [upd_ne npl, upd_ne ndl]; exact h12⟩
        have hq1 : q ≠ p := fun z => by rw [z, upd_same] at hq; cases hq
        have hq2 : H12 q = none := by
          rw [upd_ne hq1] at hq
          by_cases z : q = dx
          · rw [z]; exact hdx
          · rw [upd_ne z] at hq; exact hq
        have e012 := e011.trans e12
        refine k p q dx _ (fresh_back e012 hp) (fresh_back e012 hq2) (Ne.symm hq1) ((((((e012.mut (fresh_back e012 hdx)).mut (fresh_back e012 hp)).mut (fresh_back e012 hq2))).mut (fresh_back e012 hp)).mut (fresh_back e012 hp)) upd_same ?_
        rw [upd_ne hq1, upd_ne hq1, upd_same]
end
end Fw

set_option Elab.async false
set_option linter.all false
set_option maxRecDepth 100000
set_option maxHeartbeats 4000000
namespace Fw
open PySem PySem.Spec PyProof.Rows L2 Evl
/-! ### Wait -/
abbrev sWaitInit : Stmt := inClass (top 15) 0
abbrev sWaits : Stmt := top 22
/-- the field of a Wait -/
def wf (q : Addr) : List (Str × V) := putF "table" (.ref q) []
theorem wf_table (q : Addr) : (wf q).lookup ("table" : Str) = some (.ref q) := by
  unfold wf
  rw [lookup_putF, if_pos rfl]
theorem wf_no (q : Addr) {m : Str} (h : ¬ m = "table") : (wf q).lookup m = none := by
  unfold wf
  rw [lookup_putF, if_neg h]
  rfl
/-- what the top has left of the class -/
structure TxW (K : PySem.W.Frag) (mg : Str → Option Value) (C : Addr) : Prop where
  cl : Cls K C
  nT : NoAttr K C "table"
def spWaitInit (C : Addr) : Sp := fun vs H Q _ => ∃ (x l dx : Addr) (T : List Int) , vs = [.ref x, .ref l] ∧ H x = some (.ins C dx []) ∧ (∀ q, H q = none → Q .non (upd (upd H q (.lst (iV T))) x (.ins C dx (wf q)))) ∧ H l = some (.lst (iV T))
def spWaits (C : Addr) : Sp := fun vs H Q _ => ∃ (s : Nat) (w : Wd), vs = [.int (s : Int), .str (S w)] ∧ 2 ≤ s ∧ s ≤ 26 ∧ 0 < w.length ∧ w.length ≤ 1000 ∧ Over s w ∧
  ∀ (p q dx : Addr) (H2 : Hp), H p = none → H q = none → p ≠ q → Ex H H2 → H2 p = some (.ins C dx (wf q)) → H2 q = some (.lst (iV (tabl s w))) → Q (.ref p) H2
section
variable {P : Program} {w : World} {K : PySem.W.Frag} {mg : Str → Option Value} {base : Heap} {f C : Addr} {fd : FuncData}
theorem scWaitInit : FnScope ["self", "table"] ["self", "table"] (defScope sWaitInit) := ⟨rfl, rfl, rfl, by decide +kernel, rfl, by decide +kernel, by decide +kernel⟩
theorem ok_wait_init (T : Tx K mg) (TW : TxW K mg C) (F : L2.Fun K "__init__" "Wait.__init__" sWaitInit f fd) : FnOk P w K mg base CX0 1 f fd ["self", "table"] (spWaitInit C) := by
  refine F.ok scWaitInit (fun vs H Q E h => ?_) (fun cdv A outer s H vs Q E hr h => ?_)
  · obtain ⟨_, _, _, _, rfl, _⟩ := h
    rfl
  · obtain ⟨x, l, dx, T', rfl, hx, k, hl⟩ := h
    refine ⟨_, (pss_one (ps_fld (pv 0) (pe_callTy call_list_of (by rfl) T.n_list (by decide +kernel) (pa_cons (pv 1) pa_nil)) rfl)), ?_⟩
    refine ⟨_, rfl, l, _, rfl, Or.inl (sq_of hl), fun q hq => ?_⟩
    exact ⟨_, rfl, x, C, dx, [], rfl, (upd_ne (ne_of_none hx hq)).trans hx, TW.cl, TW.nT, by show 0 < 1000; decide, k q hq⟩
abbrev waitsN : List Str := ["sides", "word", "told", "one"]
theorem scWaits : FnScope waitsN ["sides", "word"] (defScope sWaits) := ⟨rfl, rfl, rfl, by decide +kernel, rfl, by decide +kernel, by decide +kernel⟩
theorem ok_waits (T : Tx K mg) (TW : TxW K mg C) (F : L2.Fun K "waits" "waits" sWaits f fd) (C_asked_sides : Ca P w K mg base 2 "asked_sides" spAskedSides) (C_asked_word : Ca P w K mg base 2 "asked_word" spAskedWord) (C_worths : Ca P w K mg base 2 "worths" spWorths)
    (N_Wait : Ma P w K mg base 1 "Wait" C (spWaitInit C)) : FnOk P w K mg base CX0 3 f fd ["sides", "word"] (spWaits C) := by
  refine F.ok scWaits (fun vs H Q E h => ?_) (fun cdv A outer s H vs Q E hr h => ?_)
  · obtain ⟨_, _, rfl, _⟩ := h
    rfl
  · obtain ⟨s, x, rfl, s2, s26, h0, hx, ho, k⟩ := h
    have hr : Room 2 _ := hr
    have nd := scWaits.nd
    refine ⟨_, (pss_cons (ps_expr (pe_ca C_asked_sides hr (pa_cons (pv 0) pa_nil))) 
  (pss_cons (ps_expr (pe_ca C_asked_word hr (pa_cons (pv 1) (pa_cons (pv 0) pa_nil)))) 
  (pss_cons (ps_set (i := 2) nd rfl (Or.inr rfl) (pe_ca C_worths hr (pa_cons (pv 0) (pa_cons (pv 1) pa_nil)))) 
  (pss_one (ps_ret (pe_ma N_Wait hr (pa_cons (pe_lc (own := [("one", 3)]) (g := gName 3) (by rfl) nd (pi_list (pv 2)) (blkOk_by (own := [("one", 3)]) (N := waitsN) (sc := defScope sWaits) (by decide +kernel)) (fun _ _ _ _ _ => pg_name (i := 3) nd rfl (Or.inl rfl)) (fun _ _ _ _ _ => pts_nil) (fun _ _ _ _ _ => (pe_op op_sub (pk_ix K (pe_ix ix_list (pv 2) (pe_un un_neg pe_int) (fun _ _ => rfl))) (pv 3)))) pa_nil))))))), ?_⟩
    refine q_drop (v := .non) (ev_pv (ea_cons (ev_var rfl) ea_nil) fun _ _ => ⟨s, rfl, s2, s26, rfl⟩) fun H1 e1 => ?_
    refine q_drop (v := .non) (ev_pv (ea_cons (ev_var rfl) (ea_cons (ev_var rfl) ea_nil)) fun _ _ => ⟨x, s, rfl, s26, hx, ho, h0, rfl⟩) fun H2 e2 => ?_
    refine q_asgL (el_pl (ea_cons (ev_var rfl) (ea_cons (ev_var rfl) ea_nil)) fun _ _ => ⟨s, x, rfl, s26, h0, hx, rfl⟩) fun r H3 hr3 e3 h3 => ?_
    have hL : EvL (tLc (iList K (tVar 2)) (gName 3) tYes (tOp (rI0 fun i j => .int (i - j)) (tOp (rIxL K) (tVar 2) (tUn (rU fun i => .int (-i)) (tC (.int 1)))) (tVar 3)) [3]) [some (.int (s : Int)), some (.str (S x)), some (.ref r), none] H3 (iV (tabl s x)) := by
      rw [← tabl_wths]
      refine el_lcS (a := V.int) (fun n => V.int (wth s x x.length - n)) (ev_var rfl) (sq_of h3) (by rw [wths_len]; omega) (fun _ => rfl) fun n _ H5 e5 => ?_
      refine ev_op (ev_op (ev_var rfl) (ev_un ev_c ru_neg) (rv_iLast (sq_of (e5 _ _ h3)) (by rw [wths_len]; omega) ?_)) (ev_var rfl) rv_I0
      rw [wths_len]
      exact wths_get (by omega)
    refine s_retMk1 hL fun l H4 hl e4 h4 p dx hp hdx hne => ?_
    have npl : l ≠ p := ne_of_none h4 hp
    have ndl : l ≠ dx := ne_of_none h4 hdx
    refine ⟨p, l, dx, tabl s x, rfl, upd_same, fun q hq => ⟨rfl, ?_⟩, by rw [upd_ne npl, upd_ne ndl]; exact h4⟩
    have hq1 : q ≠ p := fun z => by rw [z, upd_same] at hq; cases hq
    have hq2 : H4 q = none := by
      rw [upd_ne hq1] at hq
      by_cases z : q = dx
      · rw [z]; exact hdx
      · rw [upd_ne z] at hq; exact hq
    have e04 := ((e1.trans e2).trans e3).trans e4
    refine k p q dx _ (fresh_back e04 hp) (fresh_back e04 hq2) (Ne.symm hq1) (((((Ex.mut (Ex.mut (Ex.mut e04 (fresh_back e04 hdx)) (fresh_back e04 hp)) (fresh_back e04 hq2)))).mut (fresh_back e04 hp))) upd_same ?_
    rw [upd_ne hq1, upd_same]
/-- waits(..).table -/
theorem el_waitTab {σ : L2.St} {H : Hp} {ta : TA} {E : XK} {s : Nat} {x : Wd} (TW : TxW K mg C) (h : EvA ta σ H [.int (s : Int), .str (S x)]) (s2 : 2 ≤ s) (s26 : s ≤ 26) (h0 : 0 < x.length) (hx : x.length ≤ 1000) (ho : Over s x) :
    EvL (tFld K (tCall (spWaits C) [] E ta) "table") σ H (iV (tabl s x)) := fun H1 e Q k =>
  h H1 e _ fun H2 e2 => ⟨s, x, rfl, s2, s26, h0, hx, ho, fun p q dx H3 hp hq _ e3 h3p h3q => ⟨p, C, dx, _, _, rfl, h3p, TW.cl, TW.nT, wf_table q, k q H3 (fresh_back e2 hq) (e2.trans e3) h3q⟩⟩
end
end Fw

set_option Elab.async false
set_option linter.all false
set_option maxRecDepth 100000
set_option maxHeartbeats 4000000
namespace Fw
open PySem PySem.Spec PyProof.Rows L2 Evl
/-! ### Wait's own word -/
abbrev sWaitShows : Stmt := inClass (top 15) 1
def spWaitShows (C : Addr) : Sp := PV fun vs H z => ∃ (p dx q : Addr) (T : List Int) (s : Nat) (w : Wd), vs = [.ref p, .int (s : Int), .str (S w)] ∧ H p = some (.ins C dx (wf q)) ∧ H q = some (.lst (iV T)) ∧ T.length ≤ 10000 ∧ 2 ≤ s ∧ s ≤ 26 ∧ 0 < w.length ∧ w.length ≤ 1000 ∧ z = .bl (decide (IsTab s w T))
section
variable {P : Program} {w : World} {K : PySem.W.Frag} {mg : Str → Option Value} {base : Heap} {f C : Addr} {fd : FuncData}
abbrev showN : List Str := ["self", "sides", "word", "told", "many", "later", "letter"]
theorem scWaitShows : FnScope showN ["self", "sides", "word"] (defScope sWaitShows) := ⟨rfl, rfl, rfl, by decide +kernel, rfl, by decide +kernel, by decide +kernel⟩
theorem ok_wait_shows (T : Tx K mg) (TW : TxW K mg C) (F : L2.Fun K "shows" "Wait.shows" sWaitShows f fd) (C_backs : Ca P w K mg base 1 "backs" spBacks) (C_next_count : Ca P w K mg base 1 "next_count" (spNext K)) : FnOk P w K mg base CX0 2 f fd ["self", "sides", "word"] (spWaitShows C) := by
  refine F.ok scWaitShows (fun vs H Q E h => ?_) (fun cdv A outer s H vs Q E hr h => ?_)
  · obtain ⟨_, ⟨_, _, _, _, _, _, rfl, _⟩, _⟩ := h
    rfl
  · obtain ⟨z, ⟨p, dx, q, T', s, x, rfl, hp, hq, hT, s2, s26, h0, hx, rfl⟩, k⟩ := h
    have hr : Room 1 _ := hr
    have nd := scWaitShows.nd
    refine ⟨_, (pss_cons (ps_if (PW.pt (pw_or (pt_cmpR op_ne (pe_callB call_len_seq (by rfl) T.n_len PySem.boot_len (pa_cons (pe_fld (pv 0) rfl) pa_nil)) (pe_op op_add (pe_callB call_len_str (by rfl) T.n_len PySem.boot_len (pa_cons (pv 2) pa_nil)) pe_int) (nomark _)) (pw_or1 (pt_cmpR op_ne (pe_ix ix_list (pe_fld (pv 0) rfl) (pe_un un_neg pe_int) (fun _ _ => rfl)) pe_int (nomark _))))) 
    (pss_one (ps_ret pe_bl)) pss_nil) 
  (pss_cons (ps_set (i := 3) nd rfl (Or.inr rfl) (pe_ca C_backs hr (pa_cons (pv 2) pa_nil))) 
  (pss_cons (ps_for PassesOwn.never rfl (pi_range1 (by rfl) T.n_range (pa_cons (pe_callB call_len_str (by rfl) T.n_len PySem.boot_len (pa_cons (pv 2) pa_nil)) pa_nil)) (pg_name (i := 4) nd rfl (Or.inr rfl)) 
    (pss_cons (ps_setLc (i := 5) (own := [("letter", 6)]) (g := gName 6) (by rfl) nd rfl rfl (sw_true rfl rfl rfl (by decide +kernel)) (pi_str (pe_slice sl_str (pe_gcn T.g_LETTERS) po_none (po_some (pv 1)))) (blkOk_by (own := [("letter", 6)]) (N := showN) (sc := defScope sWaitShows) (by decide +kernel)) (fun _ _ _ _ _ => pg_name (i := 6) nd rfl (Or.inl rfl)) (fun _ _ _ _ _ => pts_nil) (fun _ _ _ _ _ => (pk_ix K (pe_ix ix_list (pk_fld K (pe_fld (pv 0) rfl)) (pe_ca C_next_count hr (pa_cons (pv 2) (pa_cons (pv 3) (pa_cons (pv 4) (pa_cons (pv 6) pa_nil))))) (fun _ _ => rfl))))) 
    (pss_one (ps_if (pt_cmpR op_ne (pe_op op_mul (pv 1) (pe_ix ix_list (pe_fld (pv 0) rfl) (pv 4) (fun _ _ => rfl))) (pe_op op_add (pv 1) (pe_callB (cr_sum rfl) (by rfl) T.n_sum (by decide +kernel) (pa_cons (pv 5) pa_nil))) (nomark _)) 
      (pss_one (ps_ret pe_bl)) pss_nil)))) 
  (pss_one (ps_ret pe_bl))))), ?_⟩
    have hf : ∀ {σ : L2.St} {H1 : Hp}, Ex H H1 → Ev (tVar 0) σ H1 (.ref p) → Ev (tFld K (tVar 0) "table") σ H1 (.ref q) := fun e h => ev_fld h (e _ _ hp) TW.cl TW.nT (wf_table q)
    have hlen : ∀ {σ : L2.St} {H1 : Hp}, Ex H H1 → Ev (tVar 0) σ H1 (.ref p) → Ev (tCB (rLenS K) (tCons (tFld K (tVar 0) "table") tNil)) σ H1 (.int (T'.length : Int)) := fun e h => by
      have := ev_len (K := K) (hf e h) (sq_of (e _ _ hq))
      rw [List.length_map] at this
      exact this
    refine q_if (b := !decide ((T'.length : Int) = (x.length : Int) + 1) || !decide (at0 T' x.length = 0)) (et_or (et_test (ev_op (hlen (Ex.refl _) (ev_var rfl)) (ev_op (ev_lenS (ev_var rfl) (by omega)) ev_c rv_I0) rv_neI)) (fun hb => ?_)) (fun hb H1 e1 => ?_) (fun hb H1 e1 => ?_)
    · rw [Bool.not_eq_false', decide_eq_true_eq] at hb
      refine et_test (ev_op (ev_op (hf (Ex.refl _) (ev_var rfl)) (ev_un ev_c ru_neg) (rv_iLast (v := at0 T' x.length) (sq_of hq) (by omega) ?_)) ev_c rv_neI)
      rw [show T'.length - 1 = x.length by omega]
      exact at0_get (by omega)
    · refine s_ret (v := .bl (decide (IsTab s x T'))) (ev_is ev_c ?_) fun H2 e2 => k H2 (e1.trans e2)
      rw [decide_eq_false]
      rintro ⟨t1, t2, _⟩
      rw [decide_eq_true (by omega), decide_eq_true t2] at hb
      exact absurd hb (by decide)
    · have hb1 : T'.length = x.length + 1 ∧ at0 T' x.length = 0 := by
        rw [Bool.or_eq_false_iff, Bool.not_eq_false', Bool.not_eq_false', decide_eq_true_eq, decide_eq_true_eq] at hb
        exact ⟨by omega, hb.2⟩
      refine q_asgL (el_pl (ea_cons (ev_var rfl) ea_nil) fun _ _ => ⟨x, rfl, h0, hx, rfl⟩) fun r H2 hr2 e2 h2 => ?_
      refine q_forR1 (n := (x.length : Int)) (ea_cons (ev_lenS (ev_var rfl) (by omega)) ea_nil) ⟨by omega, by omega⟩
        (fun i σ' H' => ∃ a b, σ' = [some (.ref p), some (.int (s : Int)), some (.str (S x)), some (.ref r), a, b, none] ∧ Ex H H' ∧ H' r = some (.lst (iV (nI (backsTo x x.length)))) ∧
          ∀ k, k < i → (s : Int) * at0 T' k = s + sumL (fun c => at0 T' (nx x k c)) (lets s))
        (fun H3 e3 => ⟨none, none, rfl, (e1.trans e2).trans e3, e3 _ _ h2, fun k hk => by omega⟩) ?_ ?_
      · rintro i σ' H3 hi ⟨a, b, rfl, e3, h3, hall⟩
        have hi : i < x.length := by omega
        refine q_asgL (xs := iV ((lets s).map fun c => at0 T' (nx x i c))) ?_ fun l H4 hl e4 h4 => ?_
        · rw [iV, List.map_map]
          refine el_lcT (w := lets s) (fun c => V.int (at0 T' (nx x i c))) (ev_is (v := .str (S ((lets 26).take s))) (ev_to ev_c (eo_is (ev_var rfl) rfl) (by rw [let26_len]; omega)) (by rw [lets_take s26])) (by rw [lets_len]; omega) (fun _ => rfl) fun c _ H5 e5 => ?_
          exact ev_op (hf (e3.trans e5) (ev_var rfl)) (ev_pv (ea_cons (ev_var rfl) (ea_cons (ev_var rfl) (ea_cons (ev_var rfl) (ea_cons (ev_var rfl) ea_nil)))) fun H6 e6 => ⟨x, r, i, c, rfl, sq_of (e6 _ _ (e5 _ _ h3)), by omega, h0, hx, rfl⟩) (rv_iT (sq_of (e5 _ _ (e3 _ _ hq))) (by have := nx_le x i c; omega))
        · have e34 := e3.trans e4
          refine s_when (b := !decide ((s : Int) * at0 T' i = s + sumL (fun c => at0 T' (nx x i c)) (lets s))) (et_test (ev_op (ev_op (ev_var rfl) (ev_op (hf e34 (ev_var rfl)) (ev_var rfl) (rv_iT (sq_of (e34 _ _ hq)) (by omega))) (rv_mulL (by omega))) (ev_op (ev_var rfl) (ev_sum (ev_var rfl) (sq_of h4)) rv_I0) rv_neI)) (fun hb H5 e5 => ?_) (fun hb H5 e5 => ?_)
          · rw [Bool.not_eq_true', decide_eq_false_iff_not] at hb
            refine s_ret (v := .bl (decide (IsTab s x T'))) (ev_is ev_c ?_) fun H6 e6 => k H6 ((e34.trans e5).trans e6)
            rw [decide_eq_false]
            exact fun z => hb (z.2.2 i hi)
          · rw [Bool.not_eq_false', decide_eq_true_eq] at hb
            refine ⟨_, _, rfl, e34.trans e5, e5 _ _ (e4 _ _ h3), fun k hk => ?_⟩
            by_cases e : k = i
            · subst e
              exact hb
            · exact hall k (by omega)
      · rintro σ' H3 ⟨a, b, rfl, e3, h3, hall⟩
        refine s_ret (v := .bl (decide (IsTab s x T'))) (ev_is ev_c ?_) fun H6 e6 => k H6 (e3.trans e6)
        rw [decide_eq_true]
        exact ⟨hb1.1, hb1.2, fun k hk => hall k (by omega)⟩
end
end Fw

set_option Elab.async false
set_option linter.all false
set_option maxRecDepth 100000
set_option maxHeartbeats 4000000
namespace Fw
open PySem PySem.Spec PyProof.Rows L2 Evl
/-! ### Race's own word -/
abbrev sLed : Stmt := top 17
abbrev sRaceShows : Stmt := inClass (top 18) 1
/-- a dict of the texts L with the numbers f -/
structure DOf (L : List Wd) (f : Wd → Int) (kvs : List (Key × V)) : Prop where
  k : ∃ ks, DKeys kvs ks ∧ ∀ t, t ∈ ks ↔ t ∈ L
  v : ∀ t ∈ L, valV kvs (kS t) = some (.int (f t))
theorem DOf.nil (f : Wd → Int) : DOf [] f [] := ⟨⟨[], DKeys.nil, fun t => Iff.rfl⟩, fun t h => by simp at h⟩
theorem DOf.put {L : List Wd} {f : Wd → Int} {kvs : List (Key × V)} (h : DOf L f kvs) (t : Wd) : DOf (L ++ [t]) f (putK kvs (kS t) (.int (f t))) := by
  obtain ⟨ks, hk, hm⟩ := h.k
  obtain ⟨ks2, hk2, hm2⟩ := hk.put t (.int (f t))
  refine ⟨⟨ks2, hk2, fun u => ?_⟩, fun u hu => ?_⟩
  · rw [hm2, hm, List.mem_append, List.mem_singleton]
    exact Or.comm
  · rw [valV_put]
    by_cases q : kS u = kS t
    · rw [if_pos q, kS_inj.mp q]
    · rw [if_neg q]
      rcases List.mem_append.mp hu with z | z
      · exact h.v u z
      · exact absurd (kS_inj.mpr (List.mem_singleton.mp z)) q
theorem DOf.has {L : List Wd} {f : Wd → Int} {kvs : List (Key × V)} (h : DOf L f kvs) (t : Wd) : (!(valV kvs (kS t)).isSome) = !decide (t ∈ L) := by
  by_cases z : t ∈ L
  · rw [h.v t z, decide_eq_true z]; rfl
  · obtain ⟨ks, hk, hm⟩ := h.k
    rw [hk.none fun q => z ((hm t).mp q), decide_eq_false z]; rfl
theorem ledW_self {L : List Wd} {u : Wd} (h : u ∈ L) : ledW L u = u := by
  cases u with
  | nil => rfl
  | cons c r =>
    unfold ledW
    rw [if_pos h]
theorem ledW_drop {L : List Wd} {c : Nat} {r : Wd} (h : ¬ (c :: r) ∈ L) : ledW L (c :: r) = ledW L r := by
  conv => lhs; unfold ledW
  rw [if_neg h]
def spLed : Sp := PV fun vs H z => ∃ (d : Addr) (kvs : List (Key × V)) (L : List Wd) (f : Wd → Int) (t : Wd) (c : Nat), vs = [.ref d, .str (S t), .str (S [c])] ∧ H d = some (.dK kvs) ∧ DOf L f kvs ∧ [] ∈ L ∧ t.length ≤ 1000 ∧ z = .str (S (ledW L (t ++ [c])))
def spRaceShows (C : Addr) : Sp := PV fun vs H z => ∃ (p dx q : Addr) (ps : List Int) (whole : Int) (s : Nat) (a b : Wd), vs = [.ref p, .int (s : Int), .str (S a), .str (S b)] ∧ H p = some (.ins C dx (rf q whole)) ∧ H q = some (.lst (iV ps)) ∧ ps.length ≤ 10000 ∧
  2 ≤ s ∧ s ≤ 26 ∧ a.length ≤ 900 ∧ b.length ≤ 900 ∧ z = .bl (decide (IsRace s a b (sts a b) ps whole))
section
variable {P : Program} {w : World} {K : PySem.W.Frag} {mg : Str → Option Value} {base : Heap} {f C : Addr} {fd : FuncData}
theorem scLed : FnScope ["states", "state", "letter", "now"] ["states", "state", "letter"] (defScope sLed) := ⟨rfl, rfl, rfl, by decide +kernel, rfl, by decide +kernel, by decide +kernel⟩
theorem ok_led (T : Tx K mg) (F : L2.Fun K "led" "led" sLed f fd) : FnOk P w K mg base CX0 1 f fd ["states", "state", "letter"] spLed := by
  refine F.ok scLed (fun vs H Q E h => ?_) (fun cdv A outer s H vs Q E hr h => ?_)
  · obtain ⟨_, ⟨_, _, _, _, _, _, rfl, _⟩, _⟩ := h
    rfl
  · obtain ⟨z, ⟨d, kvs, L, g, t, c, rfl, hd, hD, h0, ht, rfl⟩, k⟩ := h
    have hu := hu_of hr
    have nd := scLed.nd
    refine ⟨_, (pss_cons (ps_set (i := 3) nd rfl (Or.inl rfl) (pe_op op_add_str (pv 1) (pv 2))) 
  (pss_cons (ps_while PassesOwn.never (pt_cmp (pc_dnotin hu (pv 3) (pv 0))) 
    (pss_one (ps_set (i := 3) nd rfl (Or.inl rfl) (pe_slice sl_str (pv 3) (po_some pe_int) po_none)))) 
  (pss_one (ps_ret (pv 3))))), ?_⟩
    refine q_asg (ev_op (ev_var rfl) (ev_var rfl) (rv_addS (by rw [List.length_singleton]; omega))) fun H1 e1 => ?_
    refine q_while (fun m σ' H' => ∃ u : Wd, σ' = [some (.ref d), some (.str (S t)), some (.str (S [c])), some (.str (S u))] ∧ Ex H H' ∧ u.length = m ∧ m ≤ 1001 ∧ ledW L u = ledW L (t ++ [c])) (t ++ [c]).length ⟨_, rfl, e1, rfl, by rw [List.length_append, List.length_singleton]; omega, rfl⟩ ?_
    rintro m σ' H2 ⟨u, rfl, e2, hm, hm2, hl⟩
    refine ⟨!decide (u ∈ L), et_is (et_notinD (ev_var rfl) (ev_var rfl) (e2 _ _ hd)) (hD.has u), fun hb H3 e3 => ?_, fun hb H3 e3 => ?_⟩
    · rw [Bool.not_eq_true', decide_eq_false_iff_not] at hb
      refine ⟨fun σ2 H2 => ∃ m', m' < m ∧ _, fun _ _ h => h, ?_⟩
      cases u with
      | nil => exact absurd h0 hb
      | cons x r =>
        refine s_asg (v := .str (S ((x :: r).drop 1))) (ev_from (k := 1) (ev_var rfl) (eo_is ev_c rfl) (by omega)) fun H4 e4 => ?_
        exact ⟨r.length, by rw [List.length_cons] at hm; omega, r, rfl, (e2.trans e3).trans e4, rfl, by rw [List.length_cons] at hm; omega, by rw [← ledW_drop hb]; exact hl⟩
    · rw [Bool.not_eq_false', decide_eq_true_eq] at hb
      refine s_ret (v := .str (S (ledW L (t ++ [c])))) (ev_is (ev_var rfl) (by rw [← hl, ledW_self hb])) fun H4 e4 => k H4 ((e2.trans e3).trans e4)
/-- part[t] -/
theorem ev_part {σ : L2.St} {H : Hp} {td ty : TE} {d : Addr} {kvs : List (Key × V)} {L : List Wd} {g : Wd → Int} {t : Wd} (h : Ev td σ H (.ref d)) (hy : Ev ty σ H (.str (S t))) (hd : H d = some (.dK kvs)) (hD : DOf L g kvs) (ht : t ∈ L) : Ev (tDGet td ty) σ H (.int (g t)) := ev_dget h hy hd (hD.v t ht)
abbrev raceSN : List Str := ["self", "sides", "one", "other", "states", "part", "state", "many", "later", "letter"]
theorem scRaceShows : FnScope raceSN ["self", "sides", "one", "other"] (defScope sRaceShows) := ⟨rfl, rfl, rfl, by decide +kernel, rfl, by decide +kernel, by decide +kernel⟩
theorem sV_at {L : List Wd} {i : Nat} {x : V} (h : (sV L)[i]? = some x) : ∃ t, L[i]? = some t ∧ x = .str (S t) := by
  rw [List.getElem?_map] at h
  cases e : L[i]? with
  | none => rw [e] at h; cases h
  | some t => rw [e] at h; exact ⟨t, rfl, (Option.some.inj h).symm⟩
theorem iV_at {L : List Int} {i : Nat} {x : V} (h : (iV L)[i]? = some x) : ∃ t, L[i]? = some t ∧ x = .int t := by
  rw [List.getElem?_map] at h
  cases e : L[i]? with
  | none => rw [e] at h; cases h
  | some t => rw [e] at h; exact ⟨t, rfl, (Option.some.inj h).symm⟩
theorem ok_race_shows (T : Tx K mg) (TR : TxR K mg C) (F : L2.Fun K "shows" "Race.shows" sRaceShows f fd) (C_states_of : Ca P w K mg base 1 "states_of" spStatesOf) (C_led : Ca P w K mg base 1 "led" spLed) : FnOk P w K mg base CX0 2 f fd ["self", "sides", "one", "other"] (spRaceShows C) := by
  refine F.ok scRaceShows (fun vs H Q E h => ?_) (fun cdv A outer s H vs Q E hr h => ?_)
  · obtain ⟨_, ⟨_, _, _, _, _, _, _, _, rfl, _⟩, _⟩ := h
    rfl
  · obtain ⟨z, ⟨p, dx, q, ps, whole, s, a, b, rfl, hp, hq, hps, s2, s26, la, lb, rfl⟩, k⟩ := h
    have hr : Room 1 _ := hr
    have hu := hu_of hr
    have nd := scRaceShows.nd
    refine ⟨_, (pss_cons (ps_set (i := 4) nd rfl (Or.inl rfl) (pe_ca C_states_of hr (pa_cons (pv 2) (pa_cons (pv 3) pa_nil)))) 
  (pss_cons (ps_if (PW.pt (pw_or (pt_cmpR op_lt (pe_fld (pv 0) rfl) pe_int (nomark _)) (pw_or1 (pt_cmpR op_ne (pe_callB call_len_seq (by rfl) T.n_len PySem.boot_len (pa_cons (pe_fld (pv 0) rfl) pa_nil)) (pe_callB call_len_seq (by rfl) T.n_len PySem.boot_len (pa_cons (pv 4) pa_nil)) (nomark _))))) 
    (pss_one (ps_ret pe_bl)) pss_nil) 
  (pss_cons (ps_set (i := 5) nd rfl (Or.inr rfl) pe_dnewK) 
  (pss_cons (ps_for PassesOwn.never rfl (pi_zip (by rfl) T.n_zip (pa_cons (pv 4) (pa_cons (pe_fld (pv 0) rfl) pa_nil))) (pg_tup rfl (pgs_cons (pg_name (i := 6) nd rfl (Or.inr rfl)) (pgs_cons (pg_name (i := 7) nd rfl (Or.inl rfl)) pgs_nil))) 
    (pss_one (ps_dput hu (pv 5) (pv 6) (pv 7) rfl))) 
  (pss_cons (ps_if (PW.pt (pw_or (pt_cmpR op_ne (pe_dget hu (pv 5) (pv 2) (fun _ _ => rfl)) (pe_fld (pv 0) rfl) (nomark _)) (pw_or1 (pt_cmpR op_ne (pe_dget hu (pv 5) (pv 3) (fun _ _ => rfl)) pe_int (nomark _))))) 
    (pss_one (ps_ret pe_bl)) pss_nil) 
  (pss_cons (ps_for PassesOwn.never rfl (pi_list (pv 4)) (pg_name (i := 6) nd rfl (Or.inr rfl)) 
    (pss_one (ps_if (PW.pt (pw_and (pt_cmpR op_ne (pv 6) (pv 2) (nomark _)) (pw_and1 (pt_cmpR op_ne (pv 6) (pv 3) (nomark _))))) 
      (pss_cons (ps_setLc (i := 8) (own := [("letter", 9)]) (g := gName 9) (by rfl) nd rfl rfl (sw_true rfl rfl rfl (by decide +kernel)) (pi_str (pe_slice sl_str (pe_gcn T.g_LETTERS) po_none (po_some (pv 1)))) (blkOk_by (own := [("letter", 9)]) (N := raceSN) (sc := defScope sRaceShows) (by decide +kernel)) (fun _ _ _ _ _ => pg_name (i := 9) nd rfl (Or.inl rfl)) (fun _ _ _ _ _ => pts_nil) (fun _ _ _ _ _ => (pe_dget hu (pv 5) (pe_ca C_led hr (pa_cons (pv 5) (pa_cons (pv 6) (pa_cons (pv 9) pa_nil)))) (fun _ _ => rfl)))) 
      (pss_one (ps_if (pt_cmpR op_ne (pe_op op_mul (pv 1) (pe_dget hu (pv 5) (pv 6) (fun _ _ => rfl))) (pe_callB (cr_sum rfl) (by rfl) T.n_sum (by decide +kernel) (pa_cons (pv 8) pa_nil)) (nomark _)) 
        (pss_one (ps_ret pe_bl)) pss_nil))) pss_nil))) 
  (pss_one (ps_ret pe_bl)))))))), ?_⟩
    have hL := sts_is a b
    have hln := sts_len a b
    have nodupL := hL.nodup
    refine q_asgL (el_pl (ea_cons (ev_var rfl) (ea_cons (ev_var rfl) ea_nil)) fun _ _ => ⟨a, b, rfl, by omega, by omega, rfl⟩) fun r H1 hr1 e1 h1 => ?_
    generalize sts a b = L at hL hln nodupL h1 k ⊢
    have hfp : ∀ {σ : L2.St} {H2 : Hp}, Ex H H2 → Ev (tVar 0) σ H2 (.ref p) → Ev (tFld K (tVar 0) "parts") σ H2 (.ref q) := fun e h => ev_fld h (e _ _ hp) TR.cl TR.nP (rf_parts q whole)
    have hfw : ∀ {σ : L2.St} {H2 : Hp}, Ex H H2 → Ev (tVar 0) σ H2 (.ref p) → Ev (tFld K (tVar 0) "whole") σ H2 (.int whole) := fun e h => ev_fld h (e _ _ hp) TR.cl TR.nW (rf_whole q whole)
    have lenL : ∀ {σ : L2.St} {H2 : Hp} {te : TE} {r' : Addr}, Ev te σ H2 (.ref r') → SqL K H2 r' (sV L) → Ev (tCB (rLenS K) (tCons te tNil)) σ H2 (.int (L.length : Int)) := fun h hl => by
      have := ev_len (K := K) h hl
      rw [List.length_map] at this
      exact this
    have lenP : ∀ {σ : L2.St} {H2 : Hp} {te : TE}, Ev te σ H2 (.ref q) → SqL K H2 q (iV ps) → Ev (tCB (rLenS K) (tCons te tNil)) σ H2 (.int (ps.length : Int)) := fun h hl => by
      have := ev_len (K := K) h hl
      rw [List.length_map] at this
      exact this
    refine q_if (b := decide (whole < 1) || !decide ((ps.length : Int) = (L.length : Int))) (et_or (et_test (ev_op (hfw e1 (ev_var rfl)) ev_c rv_I0)) fun _ => et_test (ev_op (lenP (hfp e1 (ev_var rfl)) (sq_of (e1 _ _ hq))) (lenL (ev_var rfl) (sq_of h1)) rv_neI)) (fun hb H2 e2 => ?_) (fun hb H2 e2 => ?_)
    · refine s_ret (v := .bl (decide (IsRace s a b L ps whole))) (ev_is ev_c ?_) fun H3 e3 => k H3 ((e1.trans e2).trans e3)
      rw [decide_eq_false]
      rintro ⟨t1, t2, _⟩
      rw [decide_eq_false (by omega), decide_eq_true (by omega)] at hb
      exact absurd hb (by decide)
    · have hb1 : 1 ≤ whole ∧ ps.length = L.length := by
        rw [Bool.or_eq_false_iff, Bool.not_eq_false', decide_eq_false_iff_not, decide_eq_true_eq] at hb
        exact ⟨by omega, by omega⟩
      refine q_dnew fun d hd => ?_
      have e02 := e1.trans e2
      have hd0 : H d = none := fresh_back e02 hd
      have nrd : r ≠ d := ne_of_none (e2 _ _ h1) hd
      have nqd : q ≠ d := ne_of_none (e02 _ _ hq) hd
      have e02' : Ex H (upd H2 d (.dK [])) := Ex.mut e02 hd0
      refine q_forZ (K := K) (xs := sV L) (ys := iV ps) (ea_cons (ev_var rfl) (ea_cons (hfp e02' (ev_var rfl)) ea_nil)) (sq_of ((upd_ne nrd).trans (e2 _ _ h1))) (sq_of ((upd_ne nqd).trans (e02 _ _ hq))) (by rw [List.length_map, List.length_map, hb1.2])
        (fun i σ' H' => ∃ u6 u7 kvs, σ' = [some (.ref p), some (.int (s : Int)), some (.str (S a)), some (.str (S b)), some (.ref r), some (.ref d), u6, u7, none, none] ∧ Ex H H' ∧ H' r = some (.lst (sV L)) ∧ H' d = some (.dK kvs) ∧ DOf (L.take i) (partOf L ps) kvs ∧ kvs.length ≤ i)
        (fun H3 e3 => ⟨_, _, [], rfl, e02'.trans e3, e3 _ _ ((upd_ne nrd).trans (e2 _ _ h1)), e3 _ _ upd_same, DOf.nil _, Nat.le_refl _⟩)
        (fun i σ' H' ⟨_, _, _, _, e, h, _⟩ => ⟨sq_of h, sq_of (e _ _ hq)⟩) ?_ ?_
      · rintro i x y σ' H3 hx hy ⟨u6, u7, kvs, rfl, e3, h3r, h3d, hD, hkl⟩ H4 e4
        obtain ⟨t, ht, rfl⟩ := sV_at hx
        obtain ⟨n, hn, rfl⟩ := iV_at hy
        have hi := (List.getElem?_eq_some_iff.mp ht).1
        have hpt := partOf_get (ps := ps) nodupL ht hn
        refine s_dput (t := t) (v := .int (partOf L ps t)) (e4 _ _ h3d) (by omega) (ev_is (ev_var rfl) (by rw [hpt])) (ev_var rfl) (ev_var rfl) fun H5 e5 => ?_
        refine ⟨_, _, _, rfl, Ex.mut ((e3.trans e4).trans e5) hd0, (upd_ne nrd).trans (e5 _ _ (e4 _ _ h3r)), upd_same, ?_, ?_⟩
        · rw [take_more ht]
          exact hD.put t
        · have := putK_le kvs (kS t) (.int (partOf L ps t))
          omega
      · rintro σ' H3 ⟨u6, u7, kvs, rfl, e3, h3r, h3d, hD, hkl⟩
        rw [List.length_map, List.take_length] at hD
        refine q_if (b := !decide (partOf L ps a = whole) || !decide (partOf L ps b = 0)) (et_or (et_test (ev_op (ev_part (ev_var rfl) (ev_var rfl) h3d hD hL.one) (hfw e3 (ev_var rfl)) rv_neI)) fun _ => et_test (ev_op (ev_part (ev_var rfl) (ev_var rfl) h3d hD hL.two) ev_c rv_neI)) (fun hb H4 e4 => ?_) (fun hb H4 e4 => ?_)
        · refine s_ret (v := .bl (decide (IsRace s a b L ps whole))) (ev_is ev_c ?_) fun H5 e5 => k H5 ((e3.trans e4).trans e5)
          rw [decide_eq_false]
          rintro ⟨_, _, t1, t2, _⟩
          rw [decide_eq_true t1, decide_eq_true t2] at hb
          exact absurd hb (by decide)
        · have hb2 : partOf L ps a = whole ∧ partOf L ps b = 0 := by
            rw [Bool.or_eq_false_iff, Bool.not_eq_false', Bool.not_eq_false', decide_eq_true_eq, decide_eq_true_eq] at hb
            exact hb
          refine q_forLn (K := K) (xs := sV L) (ev_var rfl) (sq_of (e4 _ _ h3r))
            (fun i σ' H' => ∃ u6 u8, σ' = [some (.ref p), some (.int (s : Int)), some (.str (S a)), some (.str (S b)), some (.ref r), some (.ref d), u6, u7, u8, none] ∧ Ex H H' ∧ H' r = some (.lst (sV L)) ∧ H' d = some (.dK kvs) ∧
              ∀ t ∈ L.take i, t ≠ a → t ≠ b → (s : Int) * partOf L ps t = sumL (fun c => partOf L ps (ledW L (t ++ [c]))) (lets s))
            (fun H5 e5 => ⟨_, _, rfl, (e3.trans e4).trans e5, e5 _ _ (e4 _ _ h3r), e5 _ _ (e4 _ _ h3d), fun t ht => by simp at ht⟩) (fun i σ' H' _ ⟨_, _, _, _, h, _⟩ => sq_of h) ?_ ?_
          · rintro i x σ' H5 hx ⟨u6, u8, rfl, e5, h5r, h5d, hall⟩
            obtain ⟨t, ht, rfl⟩ := sV_at hx
            have htL := List.mem_of_getElem? ht
            have htl : t.length ≤ 900 := by
              rcases (hL.mem t).mp htL with z | z
              · have := z.length_le; omega
              · have := z.length_le; omega
            have hnext : ∀ (hq : t ≠ a → t ≠ b → (s : Int) * partOf L ps t = sumL (fun c => partOf L ps (ledW L (t ++ [c]))) (lets s)), ∀ u ∈ L.take (i + 1), u ≠ a → u ≠ b → (s : Int) * partOf L ps u = sumL (fun c => partOf L ps (ledW L (u ++ [c]))) (lets s) := fun hq u hu na nb => by
              rw [take_more ht] at hu
              rcases List.mem_append.mp hu with z | z
              · exact hall u z na nb
              · rw [List.mem_singleton.mp z] at na nb ⊢
                exact hq na nb
            refine s_when (b := !decide (t = a) && !decide (t = b)) (et_and (et_test (ev_op (ev_var rfl) (ev_var rfl) rv_neS)) fun _ => et_test (ev_op (ev_var rfl) (ev_var rfl) rv_neS)) (fun hb H6 e6 => ?_) (fun hb H6 e6 => ?_)
            · refine q_asgL (xs := iV ((lets s).map fun c => partOf L ps (ledW L (t ++ [c])))) ?_ fun l H7 hl e7 h7 => ?_
              · rw [iV, List.map_map]
                refine el_lcT (w := lets s) (fun c => V.int (partOf L ps (ledW L (t ++ [c])))) (ev_is (v := .str (S ((lets 26).take s))) (ev_to ev_c (eo_is (ev_var rfl) rfl) (by rw [let26_len]; omega)) (by rw [lets_take s26])) (by rw [lets_len]; omega) (fun _ => rfl) fun c _ H7 e7 => ?_
                exact ev_part (ev_var rfl) (ev_pv (ea_cons (ev_var rfl) (ea_cons (ev_var rfl) (ea_cons (ev_var rfl) ea_nil))) fun H8 e8 => ⟨d, kvs, L, partOf L ps, t, c, rfl, e8 _ _ (e7 _ _ (e6 _ _ h5d)), hD, hL.nil, by omega, rfl⟩) (e7 _ _ (e6 _ _ h5d)) hD (ledW_mem hL.nil _)
              · have e67 := e6.trans e7
                refine s_when (b := !decide ((s : Int) * partOf L ps t = sumL (fun c => partOf L ps (ledW L (t ++ [c]))) (lets s))) (et_test (ev_op (ev_op (ev_var rfl) (ev_part (ev_var rfl) (ev_var rfl) (e67 _ _ h5d) hD htL) (rv_mulL (by omega))) (ev_sum (ev_var rfl) (sq_of h7)) rv_neI)) (fun hb H8 e8 => ?_) (fun hb2 H8 e8 => ?_)
                · rename_i hb0
                  rw [Bool.not_eq_true', decide_eq_false_iff_not] at hb
                  rw [Bool.and_eq_true, Bool.not_eq_true', Bool.not_eq_true', decide_eq_false_iff_not, decide_eq_false_iff_not] at hb0
                  refine s_ret (v := .bl (decide (IsRace s a b L ps whole))) (ev_is ev_c ?_) fun H9 e9 => k H9 (((e5.trans e67).trans e8).trans e9)
                  rw [decide_eq_false]
                  exact fun z => hb (z.2.2.2.2 t htL hb0.1 hb0.2)
                · rw [Bool.not_eq_false', decide_eq_true_eq] at hb2
                  exact ⟨_, _, rfl, (e5.trans e67).trans e8, e8 _ _ (e67 _ _ h5r), e8 _ _ (e67 _ _ h5d), hnext fun _ _ => hb2⟩
            · refine ⟨_, _, rfl, e5.trans e6, e6 _ _ h5r, e6 _ _ h5d, hnext fun na nb => ?_⟩
              rw [decide_eq_false na, decide_eq_false nb] at hb
              exact absurd hb (by decide)
          · rintro σ' H5 ⟨u6, u8, rfl, e5, h5r, h5d, hall⟩
            rw [List.length_map, List.take_length] at hall
            refine s_ret (v := .bl (decide (IsRace s a b L ps whole))) (ev_is ev_c ?_) fun H6 e6 => k H6 (e5.trans e6)
            rw [decide_eq_true]
            exact ⟨hb1.1, hb1.2, hb2.1, hb2.2, hall⟩
end
end Fw

set_option Elab.async false
set_option linter.all false
set_option maxRecDepth 100000
set_option maxHeartbeats 4000000
namespace Fw
open PySem PySem.Spec PyProof.Rows L2 Evl
/-! ### the law's own look at a race -/
abbrev sLawRace : Stmt := top 30
def spLawRace : Sp := PV fun vs H z => ∃ (q : Addr) (ps : List Int) (whole : Int) (s : Nat) (a b : Wd), vs = [.int (s : Int), .str (S a), .str (S b), .ref q, .int whole] ∧ H q = some (.lst (iV ps)) ∧ ps.length ≤ 10000 ∧
  2 ≤ s ∧ s ≤ 26 ∧ a.length ≤ 900 ∧ b.length ≤ 900 ∧ z = .bl (decide (IsRace s a b (sts a b) ps whole))
theorem sumL_takeR {f : Nat → Int} {L : List Nat} {j c : Nat} (h : L[j]? = some c) : sumL f (L.take (j + 1)) = sumL f (L.take j) + f c := by
  rw [take_more h]
  unfold sumL
  rw [List.map_append, List.sum_append]
  simp
theorem pres_V (a : Wd) : ((List.range (a.length + 1)).map fun k => V.str (S (a.take k))) = (pres a).map fun t => V.str (S t) := by
  unfold pres
  rw [List.map_map]
  rfl
theorem pres_len (a : Wd) : (pres a).length = a.length + 1 := by
  unfold pres
  rw [List.length_map, List.length_range]
/-- sorted(set(the beginnings of both)) -/
theorem el_states {K : PySem.W.Frag} {w : World} {σ : L2.St} {H : Hp} {td : TE} {l : Addr} {a b : Wd} (h : Ev td σ H (.ref l)) (hl : H l = some (.lst ((pres a ++ pres b).map fun t => V.str (S t)))) (la : a.length ≤ 1000) (lb : b.length ≤ 1000) :
    EvL (tCB (rSortT w) (tCons (tCB (rSetT K w) (tCons td tNil)) tNil)) σ H (sV (sts a b)) :=
  el_sortS h hl (by rw [List.length_append, pres_len, pres_len]; omega) (sts_is a b).up (fun t => by rw [(sts_is a b).mem, List.mem_append, mem_pres, mem_pres]) fun ys up mem => IsSts.uniq ⟨up, fun t => by rw [mem, (sts_is a b).mem]⟩ (sts_is a b)
section
variable {P : Program} {w : World} {K : PySem.W.Frag} {mg : Str → Option Value} {base : Heap} {f : Addr} {fd : FuncData}
theorem inV_two {t a b : Wd} : inV (.str (S t)) [.str (S a), .str (S b)] = (decide (t = a) || decide (t = b)) := by
  have e : ∀ x y : Wd, eqV (.str (S x)) (.str (S y)) = decide (y = x) := fun x y => by
    show (S x == S y) = _
    by_cases h : y = x
    · rw [h, decide_eq_true rfl, beq_self_eq_true]
    · rw [decide_eq_false h]
      exact beq_eq_false_iff_ne.mpr fun z => h (S_inj z).symm
  show (eqV (.str (S a)) (.str (S t)) || (eqV (.str (S b)) (.str (S t)) || false)) = _
  rw [e, e, Bool.or_false]
abbrev lawTN : List Str := ["_law_sides", "_law_one", "_law_other", "_law_parts", "_law_whole", "_law_states", "_law_part", "_law_state", "_law_many", "_law_total", "_law_letter", "_law_now"]
theorem scLawRace : FnScope lawTN ["_law_sides", "_law_one", "_law_other", "_law_parts", "_law_whole"] (defScope sLawRace) := ⟨rfl, rfl, rfl, by decide +kernel, rfl, by decide +kernel, by decide +kernel⟩
theorem ok_law_race (T : Tx K mg) (F : L2.Fun K "_law_race" "_law_race" sLawRace f fd) : FnOk P w K mg base CX0 2 f fd ["_law_sides", "_law_one", "_law_other", "_law_parts", "_law_whole"] spLawRace := by
  refine F.ok scLawRace (fun vs H Q E h => ?_) (fun cdv A outer s H vs Q E hr h => ?_)
  · obtain ⟨_, ⟨_, _, _, _, _, _, rfl, _⟩, _⟩ := h
    rfl
  · obtain ⟨z, ⟨q, ps, whole, s, a, b, rfl, hq, hps, s2, s26, la, lb, rfl⟩, k⟩ := h
    have hr : Room 1 _ := hr
    have hu := hu_of hr
    have nd := scLawRace.nd
    refine ⟨_, (pss_cons (ps_set (i := 5) nd rfl (Or.inl rfl) (pe_op op_cat (pe_lc (own := [("_law_many", 8)]) (g := gName 8) (by rfl) nd (pi_range1 (by rfl) T.n_range (pa_cons (pe_op op_add (pe_callB call_len_str (by rfl) T.n_len PySem.boot_len (pa_cons (pv 1) pa_nil)) pe_int) pa_nil)) (blkOk_by (own := [("_law_many", 8)]) (N := lawTN) (sc := defScope sLawRace) (by decide +kernel)) (fun _ _ _ _ _ => pg_name (i := 8) nd rfl (Or.inl rfl)) (fun _ _ _ _ _ => pts_nil) (fun _ _ _ _ _ => (pe_slice sl_str (pv 1) po_none (po_some (pv 8))))) (pe_lc (own := [("_law_many", 8)]) (g := gName 8) (by rfl) nd (pi_range1 (by rfl) T.n_range (pa_cons (pe_op op_add (pe_callB call_len_str (by rfl) T.n_len PySem.boot_len (pa_cons (pv 2) pa_nil)) pe_int) pa_nil)) (blkOk_by (own := [("_law_many", 8)]) (N := lawTN) (sc := defScope sLawRace) (by decide +kernel)) (fun _ _ _ _ _ => pg_name (i := 8) nd rfl (Or.inl rfl)) (fun _ _ _ _ _ => pts_nil) (fun _ _ _ _ _ => (pe_slice sl_str (pv 2) po_none (po_some (pv 8))))))) 
  (pss_cons (ps_set (i := 5) nd rfl (Or.inl rfl) (pe_callB (call_sortedTS rfl) (by rfl) T.n_sorted (by decide +kernel) (pa_cons (pe_callTy (cr_setX rfl) (by rfl) T.n_set (by decide +kernel) (pa_cons (pv 5) pa_nil)) pa_nil))) 
  (pss_cons (ps_if (PW.pt (pw_or (pt_cmpR op_lt (pv 4) pe_int (nomark _)) (pw_or1 (pt_cmpR op_ne (pe_callB call_len_seq (by rfl) T.n_len PySem.boot_len (pa_cons (pv 3) pa_nil)) (pe_callB call_len_seq (by rfl) T.n_len PySem.boot_len (pa_cons (pv 5) pa_nil)) (nomark _))))) 
    (pss_one (ps_ret pe_bl)) pss_nil) 
  (pss_cons (ps_set (i := 6) nd rfl (Or.inl rfl) pe_dnewK) 
  (pss_cons (ps_for PassesOwn.never rfl (pi_zip (by rfl) T.n_zip (pa_cons (pv 5) (pa_cons (pv 3) pa_nil))) (pg_tup rfl (pgs_cons (pg_name (i := 7) nd rfl (Or.inl rfl)) (pgs_cons (pg_name (i := 8) nd rfl (Or.inl rfl)) pgs_nil))) 
    (pss_one (ps_dput hu (pv 6) (pv 7) (pv 8) rfl))) 
  (pss_cons (ps_if (PW.pt (pw_or (pt_cmpR op_ne (pe_dget hu (pv 6) (pv 1) (fun _ _ => rfl)) (pv 4) (nomark _)) (pw_or1 (pt_cmpR op_ne (pe_dget hu (pv 6) (pv 2) (fun _ _ => rfl)) pe_int (nomark _))))) 
    (pss_one (ps_ret pe_bl)) pss_nil) 
  (pss_cons (ps_for PassesOwn.never rfl (pi_list (pv 5)) (pg_name (i := 7) nd rfl (Or.inl rfl)) 
    (pss_one (ps_if (pt_cmpR op_notIn_seq (pv 7) (pe_lst (pa_cons (pv 1) (pa_cons (pv 2) pa_nil))) rfl) 
      (pss_cons (ps_set (i := 9) nd rfl (Or.inl rfl) pe_int) 
      (pss_cons (ps_for PassesOwn.never rfl (pi_str (pe_slice sl_str pe_str po_none (po_some (pv 0)))) (pg_name (i := 10) nd rfl (Or.inl rfl)) 
        (pss_cons (ps_set (i := 11) nd rfl (Or.inl rfl) (pe_op op_add_str (pv 7) (pv 10))) 
        (pss_cons (ps_while PassesOwn.never (pt_cmp (pc_dnotin hu (pv 11) (pv 6))) 
          (pss_one (ps_set (i := 11) nd rfl (Or.inl rfl) (pe_slice sl_str (pv 11) (po_some pe_int) po_none)))) 
        (pss_one (ps_set (i := 9) nd rfl (Or.inl rfl) (pe_op op_add (pv 9) (pe_dget hu (pv 6) (pv 11) (fun _ _ => rfl)))))))) 
      (pss_one (ps_if (pt_cmpR op_ne (pv 9) (pe_op op_mul (pv 0) (pe_dget hu (pv 6) (pv 7) (fun _ _ => rfl))) (nomark _)) 
        (pss_one (ps_ret pe_bl)) pss_nil)))) pss_nil))) 
  (pss_one (ps_ret pe_bl))))))))), ?_⟩
    have hL := sts_is a b
    have hln := sts_len a b
    have nodupL := hL.nodup
    refine q_asgL (xs := (pres a ++ pres b).map fun t => V.str (S t)) (el_is (el_cat (el_rangeM (n := a.length + 1) (fun k => V.str (S (a.take k))) (ea_cons (ev_is (ev_op (ev_lenS (ev_var rfl) (by omega)) ev_c rv_I0) rfl) ea_nil) (by omega) (fun _ => rfl) fun k H1 _ _ => ev_to (ev_var rfl) (eo_is (ev_var rfl) rfl) (by omega))
      (el_rangeM (n := b.length + 1) (fun k => V.str (S (b.take k))) (ea_cons (ev_is (ev_op (ev_lenS (ev_var rfl) (by omega)) ev_c rv_I0) rfl) ea_nil) (by omega) (fun _ => rfl) fun k H1 _ _ => ev_to (ev_var rfl) (eo_is (ev_var rfl) rfl) (by omega)) (by rw [List.length_map, List.length_map, List.length_range, List.length_range]; omega)) (by rw [pres_V, pres_V, List.map_append])) fun r0 H0 hr0 e0 h0 => ?_
    refine q_asgL (el_states (ev_var rfl) h0 (by omega) (by omega)) fun r H1 hr1 e1 h1 => ?_
    replace e1 := e0.trans e1
    generalize sts a b = L at hL hln nodupL h1 k ⊢
    have lenL : ∀ {σ : L2.St} {H2 : Hp} {te : TE} {r' : Addr}, Ev te σ H2 (.ref r') → SqL K H2 r' (sV L) → Ev (tCB (rLenS K) (tCons te tNil)) σ H2 (.int (L.length : Int)) := fun h hl => by
      have := ev_len (K := K) h hl
      rw [List.length_map] at this
      exact this
    have lenP : ∀ {σ : L2.St} {H2 : Hp} {te : TE}, Ev te σ H2 (.ref q) → SqL K H2 q (iV ps) → Ev (tCB (rLenS K) (tCons te tNil)) σ H2 (.int (ps.length : Int)) := fun h hl => by
      have := ev_len (K := K) h hl
      rw [List.length_map] at this
      exact this
    refine q_if (b := decide (whole < 1) || !decide ((ps.length : Int) = (L.length : Int))) (et_or (et_test (ev_op (ev_var rfl) ev_c rv_I0)) fun _ => et_test (ev_op (lenP (ev_var rfl) (sq_of (e1 _ _ hq))) (lenL (ev_var rfl) (sq_of h1)) rv_neI)) (fun hb H2 e2 => ?_) (fun hb H2 e2 => ?_)
    · refine s_ret (v := .bl (decide (IsRace s a b L ps whole))) (ev_is ev_c ?_) fun H3 e3 => k H3 ((e1.trans e2).trans e3)
      rw [decide_eq_false]
      rintro ⟨t1, t2, _⟩
      rw [decide_eq_false (by omega), decide_eq_true (by omega)] at hb
      exact absurd hb (by decide)
    · have hb1 : 1 ≤ whole ∧ ps.length = L.length := by
        rw [Bool.or_eq_false_iff, Bool.not_eq_false', decide_eq_false_iff_not, decide_eq_true_eq] at hb
        exact ⟨by omega, by omega⟩
      refine q_dnew fun d hd => ?_
      have e02 := e1.trans e2
      have hd0 : H d = none := fresh_back e02 hd
      have nrd : r ≠ d := ne_of_none (e2 _ _ h1) hd
      have nqd : q ≠ d := ne_of_none (e02 _ _ hq) hd
      have e02' : Ex H (upd H2 d (.dK [])) := Ex.mut e02 hd0
      refine q_forZ (K := K) (xs := sV L) (ys := iV ps) (ea_cons (ev_var rfl) (ea_cons (ev_var rfl) ea_nil)) (sq_of ((upd_ne nrd).trans (e2 _ _ h1))) (sq_of ((upd_ne nqd).trans (e02 _ _ hq))) (by rw [List.length_map, List.length_map, hb1.2])
        (fun i σ' H' => ∃ u7 u8 kvs, σ' = [some (.int (s : Int)), some (.str (S a)), some (.str (S b)), some (.ref q), some (.int whole), some (.ref r), some (.ref d), u7, u8, none, none, none] ∧ Ex H H' ∧ H' r = some (.lst (sV L)) ∧ H' d = some (.dK kvs) ∧ DOf (L.take i) (partOf L ps) kvs ∧ kvs.length ≤ i)
        (fun H3 e3 => ⟨_, _, [], rfl, e02'.trans e3, e3 _ _ ((upd_ne nrd).trans (e2 _ _ h1)), e3 _ _ upd_same, DOf.nil _, Nat.le_refl _⟩)
        (fun i σ' H' ⟨_, _, _, _, e, h, _⟩ => ⟨sq_of h, sq_of (e _ _ hq)⟩) ?_ ?_
      · rintro i x y σ' H3 hx hy ⟨u7, u8, kvs, rfl, e3, h3r, h3d, hD, hkl⟩ H4 e4
        obtain ⟨t, ht, rfl⟩ := sV_at hx
        obtain ⟨n, hn, rfl⟩ := iV_at hy
        have hi := (List.getElem?_eq_some_iff.mp ht).1
        have hpt := partOf_get (ps := ps) nodupL ht hn
        refine s_dput (t := t) (v := .int (partOf L ps t)) (e4 _ _ h3d) (by omega) (ev_is (ev_var rfl) (by rw [hpt])) (ev_var rfl) (ev_var rfl) fun H5 e5 => ?_
        refine ⟨_, _, _, rfl, Ex.mut ((e3.trans e4).trans e5) hd0, (upd_ne nrd).trans (e5 _ _ (e4 _ _ h3r)), upd_same, ?_, ?_⟩
        · rw [take_more ht]
          exact hD.put t
        · have := putK_le kvs (kS t) (.int (partOf L ps t))
          omega
      · rintro σ' H3 ⟨u7, u8, kvs, rfl, e3, h3r, h3d, hD, hkl⟩
        rw [List.length_map, List.take_length] at hD
        refine q_if (b := !decide (partOf L ps a = whole) || !decide (partOf L ps b = 0)) (et_or (et_test (ev_op (ev_part (ev_var rfl) (ev_var rfl) h3d hD hL.one) (ev_var rfl) rv_neI)) fun _ => et_test (ev_op (ev_part (ev_var rfl) (ev_var rfl) h3d hD hL.two) ev_c rv_neI)) (fun hb H4 e4 => ?_) (fun hb H4 e4 => ?_)
        · refine s_ret (v := .bl (decide (IsRace s a b L ps whole))) (ev_is ev_c ?_) fun H5 e5 => k H5 ((e3.trans e4).trans e5)
          rw [decide_eq_false]
          rintro ⟨_, _, t1, t2, _⟩
          rw [decide_eq_true t1, decide_eq_true t2] at hb
          exact absurd hb (by decide)
        · have hb2 : partOf L ps a = whole ∧ partOf L ps b = 0 := by
            rw [Bool.or_eq_false_iff, Bool.not_eq_false', Bool.not_eq_false', decide_eq_true_eq, decide_eq_true_eq] at hb
            exact hb
          refine q_forLn (K := K) (xs := sV L) (ev_var rfl) (sq_of (e4 _ _ h3r))
            (fun i σ' H' => ∃ u7 u9 u10 u11, σ' = [some (.int (s : Int)), some (.str (S a)), some (.str (S b)), some (.ref q), some (.int whole), some (.ref r), some (.ref d), u7, u8, u9, u10, u11] ∧ Ex H H' ∧ H' r = some (.lst (sV L)) ∧ H' d = some (.dK kvs) ∧
              ∀ t ∈ L.take i, t ≠ a → t ≠ b → (s : Int) * partOf L ps t = sumL (fun c => partOf L ps (ledW L (t ++ [c]))) (lets s))
            (fun H5 e5 => ⟨_, _, _, _, rfl, (e3.trans e4).trans e5, e5 _ _ (e4 _ _ h3r), e5 _ _ (e4 _ _ h3d), fun t ht => by simp at ht⟩) (fun i σ' H' _ ⟨_, _, _, _, _, _, h, _⟩ => sq_of h) ?_ ?_
          · rintro i x σ' H5 hx ⟨u7, u9, u10, u11, rfl, e5, h5r, h5d, hall⟩
            obtain ⟨t, ht, rfl⟩ := sV_at hx
            have htL := List.mem_of_getElem? ht
            have htl : t.length ≤ 900 := by
              rcases (hL.mem t).mp htL with z | z
              · have := z.length_le; omega
              · have := z.length_le; omega
            have hnext : ∀ (hq : t ≠ a → t ≠ b → (s : Int) * partOf L ps t = sumL (fun c => partOf L ps (ledW L (t ++ [c]))) (lets s)), ∀ u ∈ L.take (i + 1), u ≠ a → u ≠ b → (s : Int) * partOf L ps u = sumL (fun c => partOf L ps (ledW L (u ++ [c]))) (lets s) := fun hq u hu na nb => by
              rw [take_more ht] at hu
              rcases List.mem_append.mp hu with z | z
              · exact hall u z na nb
              · rw [List.mem_singleton.mp z] at na nb ⊢
                exact hq na nb
            refine s_when (b := !(decide (t = a) || decide (t = b))) (et_is (et_test (ev_opL (ev_var rfl) (el_lst (ea_cons (ev_var rfl) (ea_cons (ev_var rfl) ea_nil)) (by show 2 ≤ 100000; decide)) fun _ _ h _ => rv_niL (sq_of h) rfl rfl)) (by rw [inV_two])) (fun hb H6 e6 => ?_) (fun hb H6 e6 => ?_)
            · rw [Bool.not_eq_true', Bool.or_eq_false_iff, decide_eq_false_iff_not, decide_eq_false_iff_not] at hb
              refine q_asg ev_c fun H7 e7 => ?_
              have e57 := (e5.trans e6).trans e7
              have h7d := e7 _ _ (e6 _ _ h5d)
              refine q_forS (w := lets s) (ev_is (v := .str (S ((lets 26).take s))) (ev_to (ev_is ev_c (by rw [S_abc])) (eo_is (ev_var rfl) rfl) (by rw [let26_len]; omega)) (by rw [lets_take s26]))
                (fun j σ' H' => ∃ u10 u11, σ' = [some (.int (s : Int)), some (.str (S a)), some (.str (S b)), some (.ref q), some (.int whole), some (.ref r), some (.ref d), some (.str (S t)), u8, some (.int (sumL (fun c => partOf L ps (ledW L (t ++ [c]))) ((lets s).take j))), u10, u11] ∧ Ex H H' ∧ H' r = some (.lst (sV L)) ∧ H' d = some (.dK kvs))
                (fun H8 e8 => ⟨_, _, by rw [List.take_zero, sumL_nil]; rfl, e57.trans e8, e8 _ _ (e7 _ _ (e6 _ _ h5r)), e8 _ _ h7d⟩) ?_ ?_
              · rintro j c σ' H8 hc ⟨u10, u11, rfl, e8, h8r, h8d⟩
                refine q_asg (v := .str (S (t ++ [c]))) (ev_op (ev_var rfl) (ev_var rfl) (rv_addS (by rw [List.length_singleton]; omega))) fun H9 e9 => ?_
                refine q_while (fun m σ' H' => ∃ u : Wd, σ' = [some (.int (s : Int)), some (.str (S a)), some (.str (S b)), some (.ref q), some (.int whole), some (.ref r), some (.ref d), some (.str (S t)), u8, some (.int (sumL (fun c => partOf L ps (ledW L (t ++ [c]))) ((lets s).take j))), some (.str (S [c])), some (.str (S u))] ∧ Ex H H' ∧ H' r = some (.lst (sV L)) ∧ H' d = some (.dK kvs) ∧ u.length = m ∧ m ≤ 1001 ∧ ledW L u = ledW L (t ++ [c]))
                  (t ++ [c]).length ⟨_, rfl, e8.trans e9, e9 _ _ h8r, e9 _ _ h8d, rfl, by rw [List.length_append, List.length_singleton]; omega, rfl⟩ ?_
                rintro m σ' H10 ⟨u, rfl, e10, h10r, h10d, hm, hm2, hl⟩
                refine ⟨!decide (u ∈ L), et_is (et_notinD (ev_var rfl) (ev_var rfl) h10d) (hD.has u), fun hb H11 e11 => ?_, fun hb H11 e11 => ?_⟩
                · rw [Bool.not_eq_true', decide_eq_false_iff_not] at hb
                  refine ⟨fun σ2 H2 => ∃ m', m' < m ∧ _, fun _ _ h => h, ?_⟩
                  cases u with
                  | nil => exact absurd hL.nil hb
                  | cons x r' =>
                    refine s_asg (v := .str (S ((x :: r').drop 1))) (ev_from (k := 1) (ev_var rfl) (eo_is ev_c rfl) (by omega)) fun H12 e12 => ?_
                    exact ⟨r'.length, by rw [List.length_cons] at hm; omega, r', rfl, (e10.trans e11).trans e12, e12 _ _ (e11 _ _ h10r), e12 _ _ (e11 _ _ h10d), rfl, by rw [List.length_cons] at hm; omega, by rw [← ledW_drop hb]; exact hl⟩
                · rw [Bool.not_eq_false', decide_eq_true_eq] at hb
                  have hu' : u = ledW L (t ++ [c]) := by rw [← hl, ledW_self hb]
                  refine s_asg (v := .int (sumL (fun c => partOf L ps (ledW L (t ++ [c]))) ((lets s).take (j + 1)))) (ev_is (ev_op (ev_var rfl) (ev_part (ev_var rfl) (ev_var rfl) (e11 _ _ h10d) hD hb) rv_I0) (by rw [sumL_takeR hc, hu'])) fun H12 e12 => ?_
                  exact ⟨_, _, rfl, (e10.trans e11).trans e12, e12 _ _ (e11 _ _ h10r), e12 _ _ (e11 _ _ h10d)⟩
              · rintro σ' H8 ⟨u10, u11, rfl, e8, h8r, h8d⟩
                rw [List.take_length]
                refine s_when (b := !decide (sumL (fun c => partOf L ps (ledW L (t ++ [c]))) (lets s) = (s : Int) * partOf L ps t)) (et_test (ev_op (ev_var rfl) (ev_op (ev_var rfl) (ev_part (ev_var rfl) (ev_var rfl) h8d hD htL) (rv_mulL (by omega))) rv_neI)) (fun hb2 H9 e9 => ?_) (fun hb2 H9 e9 => ?_)
                · rw [Bool.not_eq_true', decide_eq_false_iff_not] at hb2
                  refine s_ret (v := .bl (decide (IsRace s a b L ps whole))) (ev_is ev_c ?_) fun H10 e10 => k H10 ((e8.trans e9).trans e10)
                  rw [decide_eq_false]
                  exact fun z => hb2 (z.2.2.2.2 t htL hb.1 hb.2).symm
                · rw [Bool.not_eq_false', decide_eq_true_eq] at hb2
                  exact ⟨_, _, _, _, rfl, e8.trans e9, e9 _ _ h8r, e9 _ _ h8d, hnext fun _ _ => hb2.symm⟩
            · refine ⟨_, _, _, _, rfl, e5.trans e6, e6 _ _ h5r, e6 _ _ h5d, hnext fun na nb => ?_⟩
              rw [decide_eq_false na, decide_eq_false nb] at hb
              exact absurd hb (by decide)
          · rintro σ' H5 ⟨u7, u9, u10, u11, rfl, e5, h5r, h5d, hall⟩
            rw [List.length_map, List.take_length] at hall
            refine s_ret (v := .bl (decide (IsRace s a b L ps whole))) (ev_is ev_c ?_) fun H6 e6 => k H6 (e5.trans e6)
            rw [decide_eq_true]
            exact ⟨hb1.1, hb1.2, hb2.1, hb2.2, hall⟩
end
end Fw

set_option Elab.async false
set_option linter.all false
set_option maxRecDepth 100000
set_option maxHeartbeats 4000000
namespace Fw
open PySem PySem.Spec PyProof.Rows L2 Evl
/-! ### the law's changes, answers made by hand -/
abbrev sBent : Stmt := top 31
abbrev sSays : Stmt := top 28
abbrev bentN : List Str := ["_law_some", "_law_cell", "_law_kind", "_law_at", "_law_one"]
def spBent : Sp := fun vs H Q _ => ∃ (q : Addr) (T : List Int) (c : Int), vs = [.ref q, .int c] ∧ H q = some (.lst (iV T)) ∧ T.length ≤ 1000 ∧ ∀ (p : Addr) (T' : List Int) (H' : Hp), H p = none → Ex H H' → H' p = some (.lst (iV T')) → T'.length ≤ 3001 → Q (.ref p) H'
def spSays : Sp := PV fun vs H z => ∃ a b : Bool, vs = [.bl a, .bl b] ∧ z = .bl (decide (a = b))
section
variable {K : PySem.W.Frag} {σ : L2.St} {H : Hp} {ta te tb tl : TE} {t : TA} {tt : TT} {D : Ends} {tz : TS} {C : Addr} {E : XK} {T : List Int} {Wn : Int} {n m : Nat} {i : Nat} {l q : Addr} {vs : List V} {z : V} {x : Str}
theorem ei_le (h : EvI te σ H n) (e : n ≤ m) : EvI te σ H m := fun H1 a Q k => h H1 a Q fun p T H2 hp e2 h2 hn => k p T H2 hp e2 h2 (Nat.le_trans hn e)
theorem ei_bent {c : Int} (h : EvA t σ H [.ref q, .int c]) (hq : H q = some (.lst (iV T))) (hT : T.length ≤ 1000) : EvI (tCall spBent [] E t) σ H 3001 := fun H1 e Q k =>
  h H1 e _ fun H2 e2 => ⟨q, T, c, rfl, e2 _ _ (e _ _ hq), hT, fun p T' H3 hp e3 h3 hn => k p T' H3 (fresh_back e2 hp) (e2.trans e3) h3 hn⟩
/-- a new Wait of the table T; a new Race of the parts T and the whole Wn -/
def EvW (C : Addr) (te : TE) (σ : L2.St) (H : Hp) (T : List Int) : Prop := ∀ H1, Ex H H1 → ∀ Q : VK, (∀ p q dx H2, H1 p = none → H1 q = none → p ≠ q → Ex H1 H2 → H2 p = some (.ins C dx (wf q)) → H2 q = some (.lst (iV T)) → Q (.ref p) H2) → te σ H1 Q
def EvR (C : Addr) (te : TE) (σ : L2.St) (H : Hp) (T : List Int) (Wn : Int) : Prop := ∀ H1, Ex H H1 → ∀ Q : VK, (∀ p q dx H2, H1 p = none → H1 q = none → p ≠ q → Ex H1 H2 → H2 p = some (.ins C dx (rf q Wn)) → H2 q = some (.lst (iV T)) → Q (.ref p) H2) → te σ H1 Q
theorem ew_make (h : Ev te σ H (.ref l)) (hl : H l = some (.lst (iV T))) : EvW C (tMake C (spWaitInit C) [] E (tCons te tNil)) σ H T := fun H1 e Q k =>
  h H1 e _ fun H2 e2 p dx hp hdx hne => by
    have h4 := e2 _ _ (e _ _ hl)
    have npl : l ≠ p := ne_of_none h4 hp
    have ndl : l ≠ dx := ne_of_none h4 hdx
    refine ⟨p, l, dx, T, rfl, upd_same, fun q hq => ⟨rfl, ?_⟩, by rw [upd_ne npl, upd_ne ndl]; exact h4⟩
    have hq1 : q ≠ p := fun z => by rw [z, upd_same] at hq; cases hq
    have hq2 : H2 q = none := by
      rw [upd_ne hq1] at hq
      by_cases z : q = dx
      · rw [z]; exact hdx
      · rw [upd_ne z] at hq; exact hq
    refine k p q dx _ (fresh_back e2 hp) (fresh_back e2 hq2) (Ne.symm hq1) (((((Ex.mut (Ex.mut (Ex.mut e2 (fresh_back e2 hdx)) (fresh_back e2 hp)) (fresh_back e2 hq2)))).mut (fresh_back e2 hp))) upd_same ?_
    rw [upd_ne hq1, upd_same]
theorem ew_makeL (h : EvL te σ H (iV T)) : EvW C (tMake C (spWaitInit C) [] E (tCons te tNil)) σ H T := fun H1 e Q k =>
  h H1 e _ fun l H2 _ e2 h2 => (ew_make (te := tC (.ref l)) (σ := σ) (H := H2) (C := C) (E := E) ev_c h2) H2 (Ex.refl _) Q fun p q dx H3 hp hq hne e3 h3p h3q => k p q dx H3 (fresh_back e2 hp) (fresh_back e2 hq) hne (e2.trans e3) h3p h3q
theorem er_make (h : Ev te σ H (.ref l)) (hl : H l = some (.lst (iV T))) (hb : Ev tb σ H (.int Wn)) : EvR C (tMake C (spRaceInit C) [] E (tCons te (tCons tb tNil))) σ H T Wn := fun H1 e Q k =>
  h H1 e _ fun H3 e3 => hb H3 (e.trans e3) _ fun H2 e32 p dx hp hdx hne => by
    have e2 := e3.trans e32
    have h4 := e2 _ _ (e _ _ hl)
    have npl : l ≠ p := ne_of_none h4 hp
    have ndl : l ≠ dx := ne_of_none h4 hdx
    refine ⟨p, l, dx, T, Wn, rfl, upd_same, fun q hq => ⟨rfl, ?_⟩, by rw [upd_ne npl, upd_ne ndl]; exact h4⟩
    have hq1 : q ≠ p := fun z => by rw [z, upd_same] at hq; cases hq
    have hq2 : H2 q = none := by
      rw [upd_ne hq1] at hq
      by_cases z : q = dx
      · rw [z]; exact hdx
      · rw [upd_ne z] at hq; exact hq
    refine k p q dx _ (fresh_back e2 hp) (fresh_back e2 hq2) (Ne.symm hq1) ((((((e2.mut (fresh_back e2 hdx)).mut (fresh_back e2 hp)).mut (fresh_back e2 hq2))).mut (fresh_back e2 hp)).mut (fresh_back e2 hp)) upd_same ?_
    rw [upd_ne hq1, upd_ne hq1, upd_same]
theorem er_makeL (h : EvL te σ H (iV T)) (hb : Ev tb σ H (.int Wn)) : EvR C (tMake C (spRaceInit C) [] E (tCons te (tCons tb tNil))) σ H T Wn := fun H1 e Q k =>
  h H1 e _ fun l H2 _ e2 h2 => (er_make (te := tC (.ref l)) (tb := tb) (σ := σ) (H := H2) (C := C) (E := E) ev_c h2 (hb.mono (e.trans e2))) H2 (Ex.refl _) Q fun p q dx H3 hp hq hne e3 h3p h3q => k p q dx H3 (fresh_back e2 hp) (fresh_back e2 hq) hne (e2.trans e3) h3p h3q
theorem q_asgW (h : EvW C te σ H T) (k : ∀ p q dx H1, H p = none → H q = none → p ≠ q → Ex H H1 → H1 p = some (.ins C dx (wf q)) → H1 q = some (.lst (iV T)) → tz D (σ.set i (some (.ref p))) H1) : tSeq (tAsg te (gName i)) tz D σ H := h H (Ex.refl H) _ k
theorem q_asgR (h : EvR C te σ H T Wn) (k : ∀ p q dx H1, H p = none → H q = none → p ≠ q → Ex H H1 → H1 p = some (.ins C dx (rf q Wn)) → H1 q = some (.lst (iV T)) → tz D (σ.set i (some (.ref p))) H1) : tSeq (tAsg te (gName i)) tz D σ H := h H (Ex.refl H) _ k
theorem ev_meW {R : List V → Hp → V → Prop} (h : EvW C te σ H T) (hm : ¬ x = "table") (ha : EvA t σ H vs) (hr : ∀ p q dx H1, Ex H H1 → H1 p = some (.ins C dx (wf q)) → H1 q = some (.lst (iV T)) → R (.ref p :: vs) H1 z) : Ev (tMeth C x (PV R) [] E te t) σ H z := fun H1 e Q k =>
  h H1 e _ fun p q dx H2 _ _ _ e2 h2p h2q => ⟨p, dx, _, rfl, h2p, wf_no q hm, ha H2 (e.trans e2) _ fun H3 e3 => ⟨z, by rw [List.append_nil]; exact hr p q dx H3 ((e.trans e2).trans e3) (e3 _ _ h2p) (e3 _ _ h2q), fun H4 e4 => k H4 ((e2.trans e3).trans e4)⟩⟩
theorem ev_meR {R : List V → Hp → V → Prop} (h : EvR C te σ H T Wn) (hm : ¬ x = "whole") (hm2 : ¬ x = "parts") (ha : EvA t σ H vs) (hr : ∀ p q dx H1, Ex H H1 → H1 p = some (.ins C dx (rf q Wn)) → H1 q = some (.lst (iV T)) → R (.ref p :: vs) H1 z) : Ev (tMeth C x (PV R) [] E te t) σ H z := fun H1 e Q k =>
  h H1 e _ fun p q dx H2 _ _ _ e2 h2p h2q => ⟨p, dx, _, rfl, h2p, rf_no q Wn hm hm2, ha H2 (e.trans e2) _ fun H3 e3 => ⟨z, by rw [List.append_nil]; exact hr p q dx H3 ((e.trans e2).trans e3) (e3 _ _ h2p) (e3 _ _ h2q), fun H4 e4 => k H4 ((e2.trans e3).trans e4)⟩⟩
/-- some Race of n parts at the most -/
def Told (C : Addr) (n : Nat) (v : V) (H : Hp) : Prop := ∃ (p q dx : Addr) (T : List Int) (Wn : Int), v = .ref p ∧ H p = some (.ins C dx (rf q Wn)) ∧ H q = some (.lst (iV T)) ∧ T.length ≤ n
theorem ep_if {b : Bool} {R : V → Hp → Prop} (h : EvT tt σ H b) (ha : b = true → EvP te σ H R) (hb : b = false → EvP tb σ H R) : EvP (tIf tt te tb) σ H R := fun H1 e Q k => h H1 e _ fun H2 e2 => by
  cases b with
  | true =>
    show te σ H2 Q
    exact ha rfl H2 (e.trans e2) Q fun v H3 e3 hv => k v H3 (e2.trans e3) hv
  | false =>
    show tb σ H2 Q
    exact hb rfl H2 (e.trans e2) Q fun v H3 e3 hv => k v H3 (e2.trans e3) hv
theorem ep_ofR (h : EvR C te σ H T Wn) (hn : T.length ≤ n) : EvP te σ H (Told C n) := fun H1 e Q k => h H1 e Q fun p q dx H2 _ _ _ e2 h2p h2q => k _ H2 e2 ⟨p, q, dx, T, Wn, rfl, h2p, h2q, hn⟩
theorem ep_race {s : Nat} {a b : Wd} (h : EvA t σ H [.int (s : Int), .str (S a), .str (S b)]) (W : Two s a b) (hn : a.length + b.length + 2 ≤ n) : EvP (tCall (spRace C) [] E t) σ H (Told C n) := fun H1 e Q k =>
  h H1 e _ fun H2 e2 => ⟨s, a, b, rfl, W, fun p q dx H3 _ _ _ e3 h3p h3q => k _ H3 (e2.trans e3) ⟨p, q, dx, _, _, rfl, h3p, h3q, by have := sts_len a b; rw [List.length_map]; omega⟩⟩
/-- not in, of texts -/
theorem rv_niS {a b : List Nat} : RV (fun x y H Q => ∃ i j : Str, x = .str i ∧ y = .str j ∧ Q (.bl (!(!(Builtin.Str.occurrences j i 0 j.length 1).isEmpty))) H) (.str (S b)) (.str (S a)) H (.bl (!decide (b <:+: a))) := fun H1 e Q q => ⟨S b, S a, rfl, rfl, by rw [in_is]; exact q H1 (Ex.refl H1)⟩
end
section
variable {P : Program} {w : World} {K : PySem.W.Frag} {mg : Str → Option Value} {base : Heap} {f : Addr} {fd : FuncData}
theorem scSays : FnScope ["_law_said", "_law_due"] ["_law_said", "_law_due"] (defScope sSays) := ⟨rfl, rfl, rfl, by decide +kernel, rfl, by decide +kernel, by decide +kernel⟩
theorem ok_says (T : Tx K mg) (F : L2.Fun K "_law_says" "_law_says" sSays f fd) : FnOk P w K mg base CX0 1 f fd ["_law_said", "_law_due"] spSays := by
  refine F.ok scSays (fun vs H Q E h => ?_) (fun cdv A outer s H vs Q E hr h => ?_)
  · obtain ⟨_, ⟨_, _, rfl, _⟩, _⟩ := h
    rfl
  · obtain ⟨z, ⟨a, b, rfl, rfl⟩, k⟩ := h
    have nd := scSays.nd
    refine ⟨_, (pss_one (ps_ret (pe_and (pe_callB (r := rIsi K) (id := "isinstance") call_isi (by rfl) T.n_isinstance (by decide +kernel) (pa_cons (pv 0) (pa_cons (pe_ty "bool" T.n_bool) pa_nil))) (pe_one (pe_cmpR op_eq (pv 0) (pv 1) (nomark _)))))), ?_⟩
    exact s_ret (v := .bl (true && decide (a = b))) (ev_andV (ev_isi (K := K) (t := "bool") (ev_var rfl) (fun _ _ => ty_bl) (by decide +kernel)) fun _ => ev_op (ev_var rfl) (ev_var rfl) rv_eqB) fun H1 e1 => k H1 e1
theorem scBent : FnScope bentN ["_law_some", "_law_cell"] (defScope sBent) := ⟨rfl, rfl, rfl, by decide +kernel, rfl, by decide +kernel, by decide +kernel⟩
theorem ok_bent (T : Tx K mg) (F : L2.Fun K "_law_bent" "_law_bent" sBent f fd) : FnOk P w K mg base CX0 1 f fd ["_law_some", "_law_cell"] spBent := by
  refine F.ok scBent (fun vs H Q E h => ?_) (fun cdv A outer s H vs Q E hr h => ?_)
  · obtain ⟨_, _, _, rfl, _⟩ := h
    rfl
  · obtain ⟨q, T', c, rfl, hq, hT, k⟩ := h
    have nd := scBent.nd
    refine ⟨_, (pss_cons (ps_set (i := 2) nd rfl (Or.inl rfl) (pe_op op_mod (pv 1) pe_int)) 
  (pss_cons (ps_set (i := 3) nd rfl (Or.inl rfl) (pe_op op_mod (pe_op op_fdiv (pv 1) pe_int) (pe_op op_add (pe_callB call_len_seq (by rfl) T.n_len PySem.boot_len (pa_cons (pv 0) pa_nil)) pe_int))) 
  (pss_cons (ps_if (pt_cmpR op_eq (pv 2) pe_int (nomark _)) 
    (pss_one (ps_ret (pe_op op_cat (pe_op op_cat (pe_slice sl_list (pv 0) po_none (po_some (pv 3))) (pe_lc (own := [("_law_one", 4)]) (g := gName 4) (by rfl) nd (pi_list (pe_slice sl_list (pv 0) (po_some (pv 3)) (po_some (pe_op op_add (pv 3) pe_int)))) (blkOk_by (own := [("_law_one", 4)]) (N := bentN) (sc := defScope sBent) (by decide +kernel)) (fun _ _ _ _ _ => pg_name (i := 4) nd rfl (Or.inl rfl)) (fun _ _ _ _ _ => pts_nil) (fun _ _ _ _ _ => (pe_op op_add (pv 4) pe_int)))) (pe_slice sl_list (pv 0) (po_some (pe_op op_add (pv 3) pe_int)) po_none)))) pss_nil) 
  (pss_cons (ps_if (pt_cmpR op_eq (pv 2) pe_int (nomark _)) 
    (pss_one (ps_ret (pe_op op_cat (pe_op op_cat (pe_slice sl_list (pv 0) po_none (po_some (pv 3))) (pe_lc (own := [("_law_one", 4)]) (g := gName 4) (by rfl) nd (pi_list (pe_slice sl_list (pv 0) (po_some (pv 3)) (po_some (pe_op op_add (pv 3) pe_int)))) (blkOk_by (own := [("_law_one", 4)]) (N := bentN) (sc := defScope sBent) (by decide +kernel)) (fun _ _ _ _ _ => pg_name (i := 4) nd rfl (Or.inl rfl)) (fun _ _ _ _ _ => pts_nil) (fun _ _ _ _ _ => (pe_op op_sub (pv 4) pe_int)))) (pe_slice sl_list (pv 0) (po_some (pe_op op_add (pv 3) pe_int)) po_none)))) pss_nil) 
  (pss_cons (ps_if (pt_cmpR op_eq (pv 2) pe_int (nomark _)) 
    (pss_one (ps_ret (pe_op op_cat (pe_slice sl_list (pv 0) po_none (po_some (pv 3))) (pe_slice sl_list (pv 0) (po_some (pe_op op_add (pv 3) pe_int)) po_none)))) pss_nil) 
  (pss_cons (ps_if (pt_cmpR op_eq (pv 2) pe_int (nomark _)) 
    (pss_one (ps_ret (pe_op op_cat (pe_op op_cat (pe_slice sl_list (pv 0) po_none (po_some (pv 3))) (pe_lst (pa_cons (pe_op op_mod (pv 1) pe_int) pa_nil))) (pe_slice sl_list (pv 0) (po_some (pv 3)) po_none)))) pss_nil) 
  (pss_cons (ps_if (pt_cmpR op_eq (pv 2) pe_int (nomark _)) 
    (pss_one (ps_ret (pe_lc (own := [("_law_one", 4)]) (g := gName 4) (by rfl) nd (pi_list (pv 0)) (blkOk_by (own := [("_law_one", 4)]) (N := bentN) (sc := defScope sBent) (by decide +kernel)) (fun _ _ _ _ _ => pg_name (i := 4) nd rfl (Or.inl rfl)) (fun _ _ _ _ _ => pts_nil) (fun _ _ _ _ _ => (pe_op op_mul pe_int (pv 4)))))) pss_nil) 
  (pss_one (ps_ret (pe_ifExp (pt_cmpR op_eq (pv 2) pe_int (nomark _)) (pe_revL (pv 0)) (pe_callTy call_list_of (by rfl) T.n_list (by decide +kernel) (pa_cons (pv 0) pa_nil)))))))))))), ?_⟩
    have hlen : ∀ {σ : L2.St} {H1 : Hp}, Ex H H1 → Ev (tVar 0) σ H1 (.ref q) → Ev (tCB (rLenS K) (tCons (tVar 0) tNil)) σ H1 (.int (T'.length : Int)) := fun e h => by
      have := ev_len (K := K) h (sq_of (e _ _ hq))
      rw [List.length_map] at this
      exact this
    refine q_asg (v := .int (c % 7)) (ev_op (ev_var rfl) ev_c (rv_mod (by decide))) fun H1 e1 => ?_
    refine q_asg (v := .int (c / 7 % ((T'.length : Int) + 1))) (ev_op (ev_op (ev_var rfl) ev_c (rv_div ⟨by decide, by decide⟩)) (ev_op (hlen e1 (ev_var rfl)) ev_c rv_I0) (rv_mod (by omega))) fun H2 e2 => ?_
    generalize c / 7 % ((T'.length : Int) + 1) = at'
    generalize c % 7 = kd
    have e02 := e1.trans e2
    refine q_when (b := decide (kd = 1)) (et_test (ev_op (ev_var rfl) ev_c rv_eqI)) (fun _ H3 e3 => ?_) (fun _ H3 e3 => ?_)
    · have hs := sq_of (K := K) ((e02.trans e3) _ _ hq)
      exact s_retI (n := 3001) (ei_le (ei_cat (ei_cat (ei_sl (ev_var rfl) eo_none (eo_some (ev_var rfl)) hs) (ei_lc (fun i => i + 1) (ei_sl (ev_var rfl) (eo_some (ev_var rfl)) (eo_some (ev_op (ev_var rfl) ev_c rv_I0)) hs) (by omega) (fun _ => rfl) fun i H4 e4 => ev_op (ev_var rfl) ev_c rv_I0) (by omega)) (ei_sl (ev_var rfl) (eo_some (ev_op (ev_var rfl) ev_c rv_I0)) eo_none hs) (by omega)) (by omega))
        fun p T2 H4 hp e4 h4 hn => k p T2 H4 (fresh_back (e02.trans e3) hp) ((e02.trans e3).trans e4) h4 hn
    replace e02 := e02.trans e3
    refine q_when (b := decide (kd = 2)) (et_test (ev_op (ev_var rfl) ev_c rv_eqI)) (fun _ H4 e4 => ?_) (fun _ H4 e4 => ?_)
    · have hs := sq_of (K := K) ((e02.trans e4) _ _ hq)
      exact s_retI (n := 3001) (ei_le (ei_cat (ei_cat (ei_sl (ev_var rfl) eo_none (eo_some (ev_var rfl)) hs) (ei_lc (fun i => i - 1) (ei_sl (ev_var rfl) (eo_some (ev_var rfl)) (eo_some (ev_op (ev_var rfl) ev_c rv_I0)) hs) (by omega) (fun _ => rfl) fun i H4 e4 => ev_op (ev_var rfl) ev_c rv_I0) (by omega)) (ei_sl (ev_var rfl) (eo_some (ev_op (ev_var rfl) ev_c rv_I0)) eo_none hs) (by omega)) (by omega))
        fun p T2 H5 hp e5 h5 hn => k p T2 H5 (fresh_back (e02.trans e4) hp) ((e02.trans e4).trans e5) h5 hn
    replace e02 := e02.trans e4
    refine q_when (b := decide (kd = 3)) (et_test (ev_op (ev_var rfl) ev_c rv_eqI)) (fun _ H5 e5 => ?_) (fun _ H5 e5 => ?_)
    · have hs := sq_of (K := K) ((e02.trans e5) _ _ hq)
      exact s_retI (n := 3001) (ei_le (ei_cat (ei_sl (ev_var rfl) eo_none (eo_some (ev_var rfl)) hs) (ei_sl (ev_var rfl) (eo_some (ev_op (ev_var rfl) ev_c rv_I0)) eo_none hs) (by omega)) (by omega))
        fun p T2 H6 hp e6 h6 hn => k p T2 H6 (fresh_back (e02.trans e5) hp) ((e02.trans e5).trans e6) h6 hn
    replace e02 := e02.trans e5
    refine q_when (b := decide (kd = 4)) (et_test (ev_op (ev_var rfl) ev_c rv_eqI)) (fun _ H6 e6 => ?_) (fun _ H6 e6 => ?_)
    · have hs := sq_of (K := K) ((e02.trans e6) _ _ hq)
      exact s_retI (n := 3001) (ei_le (ei_cat (ei_cat (ei_sl (ev_var rfl) eo_none (eo_some (ev_var rfl)) hs) (ei_of (n := 1) (T := [c % 9]) (el_lst (ea_cons (ev_op (ev_var rfl) ev_c (rv_mod (by decide))) ea_nil) (by show 1 ≤ 100000; decide)) (by show 1 ≤ 1; decide)) (by omega)) (ei_sl (ev_var rfl) (eo_some (ev_var rfl)) eo_none hs) (by omega)) (by omega))
        fun p T2 H7 hp e7 h7 hn => k p T2 H7 (fresh_back (e02.trans e6) hp) ((e02.trans e6).trans e7) h7 hn
    replace e02 := e02.trans e6
    refine q_when (b := decide (kd = 5)) (et_test (ev_op (ev_var rfl) ev_c rv_eqI)) (fun _ H7 e7 => ?_) (fun _ H7 e7 => ?_)
    · have hs := sq_of (K := K) ((e02.trans e7) _ _ hq)
      exact s_retI (n := 3001) (ei_le (ei_lcV (fun i => 2 * i) (ev_var rfl) hs (by omega) (fun _ => rfl) fun i H8 e8 => ev_op ev_c (ev_var rfl) (rv_mulL (by decide))) (by omega))
        fun p T2 H8 hp e8 h8 hn => k p T2 H8 (fresh_back (e02.trans e7) hp) ((e02.trans e7).trans e8) h8 hn
    replace e02 := e02.trans e7
    have hs := sq_of (K := K) (e02 _ _ hq)
    exact s_retI (n := 3001) (ei_le (ei_if (b := decide (kd = 6)) (et_test (ev_op (ev_var rfl) ev_c rv_eqI)) (ei_revI (ev_var rfl) hs) (ei_of (el_list (ev_var rfl) hs) (Nat.le_refl _))) (by omega))
      fun p T2 H8 hp e8 h8 hn => k p T2 H8 (fresh_back e02 hp) (e02.trans e8) h8 hn
end
end Fw

set_option Elab.async false
set_option linter.all false
set_option maxRecDepth 100000
set_option maxHeartbeats 4000000
namespace Fw
open PySem PySem.Spec PyProof.Rows L2 Evl
/-! ### the law's words -/
abbrev sLawWords : Stmt := top 26
abbrev lawN : List Str := ["_law_script", "_law_mixed", "_law_sides", "_law_letters", "_law_half", "_law_one", "_law_other", "_law_part", "_law_cell"]
/-- what the words drawn are -/
structure Drawn (s : Nat) (a b : Wd) : Prop where
  s2 : 2 ≤ s
  s26 : s ≤ 26
  oa : Over s a
  ob : Over s b
  a0 : 0 < a.length
  b0 : 0 < b.length
  len : a.length + b.length ≤ 66
def spLawWords (K : PySem.W.Frag) : Sp := fun vs H Q _ => ∃ (p : Addr) (ns : List Int), vs = [.ref p] ∧ SqL K H p (iV ns) ∧ ns.length ≤ 63 ∧
  ∀ (s : Nat) (a b : Wd), Drawn s a b → ∀ q H2, H q = none → Ex H H2 → H2 q = some (.tup [.int (s : Int), .str (S a), .str (S b)]) → Q (.ref q) H2
section
variable {P : Program} {w : World} {K : PySem.W.Frag} {mg : Str → Option Value} {base : Heap} {f : Addr} {fd : FuncData}
theorem scLawWords : FnScope lawN ["_law_script"] (defScope sLawWords) := ⟨rfl, rfl, rfl, by decide +kernel, rfl, by decide +kernel, by decide +kernel⟩
theorem ok_law_words (T : Tx K mg) (F : L2.Fun K "_law_words" "_law_words" sLawWords f fd) : FnOk P w K mg base CX0 1 f fd ["_law_script"] (spLawWords K) := by
  refine F.ok scLawWords (fun vs H Q E h => ?_) (fun cdv A outer s H vs Q E hr h => ?_)
  · obtain ⟨_, _, rfl, _⟩ := h
    rfl
  · obtain ⟨p, ns, rfl, hS, hn, k⟩ := h
    have nd := scLawWords.nd
    refine ⟨_, (pss_cons (ps_set (i := 1) nd rfl (Or.inl rfl) (pe_callB (cr_sum rfl) (by rfl) T.n_sum (by decide +kernel) (pa_cons (pv 0) pa_nil))) 
  (pss_cons (ps_set (i := 2) nd rfl (Or.inr rfl) (pe_ix ix_tup (pe_tup (pa_cons pe_int (pa_cons pe_int (pa_cons pe_int (pa_cons (pe_op op_add pe_int (pe_op op_mod (pe_op op_fdiv (pv 1) pe_int) (pe_ifExp (pt_cmpR op_lt (pe_callB call_len_seq (by rfl) T.n_len PySem.boot_len (pa_cons (pv 0) pa_nil)) pe_int (nomark _)) pe_int pe_int))) pa_nil))))) (pe_op op_mod (pv 1) pe_int) (fun _ _ => rfl))) 
  (pss_cons (ps_set (i := 3) nd rfl (Or.inr rfl) (pe_slice sl_str pe_str po_none (po_some (pv 2)))) 
  (pss_cons (ps_set (i := 4) nd rfl (Or.inl rfl) (pe_ifExp (pt_cmpR op_eq (pe_op op_mod (pe_op op_fdiv (pv 1) pe_int) pe_int) pe_int (nomark _)) (pe_op op_fdiv (pe_callB call_len_seq (by rfl) T.n_len PySem.boot_len (pa_cons (pv 0) pa_nil)) pe_int) (pe_op op_mod (pe_op op_fdiv (pv 1) pe_int) (pe_op op_add (pe_callB call_len_seq (by rfl) T.n_len PySem.boot_len (pa_cons (pv 0) pa_nil)) pe_int)))) 
  (pss_cons (ps_set (i := 5) nd rfl (Or.inl rfl) (pe_bm PySem.F.plainAttrs_str PySem.F.slot_str_join PySem.F.type_str_join mt_join pe_str (pa_cons (pe_lc (own := [("_law_cell", 8)]) (g := gName 8) (by rfl) nd (pi_list (pe_slice sl_list (pv 0) po_none (po_some (pv 4)))) (blkOk_by (own := [("_law_cell", 8)]) (N := lawN) (sc := defScope sLawWords) (by decide +kernel)) (fun _ _ _ _ _ => pg_name (i := 8) nd rfl (Or.inl rfl)) (fun _ _ _ _ _ => pts_nil) (fun _ _ _ _ _ => (pe_ix ix_str (pv 3) (pe_op op_mod (pe_op op_fdiv (pv 8) pe_int) (pv 2)) (fun _ _ => rfl)))) pa_nil))) 
  (pss_cons (ps_set (i := 6) nd rfl (Or.inl rfl) (pe_bm PySem.F.plainAttrs_str PySem.F.slot_str_join PySem.F.type_str_join mt_join pe_str (pa_cons (pe_lc (own := [("_law_cell", 8)]) (g := gName 8) (by rfl) nd (pi_list (pe_slice sl_list (pv 0) (po_some (pv 4)) po_none)) (blkOk_by (own := [("_law_cell", 8)]) (N := lawN) (sc := defScope sLawWords) (by decide +kernel)) (fun _ _ _ _ _ => pg_name (i := 8) nd rfl (Or.inl rfl)) (fun _ _ _ _ _ => pts_nil) (fun _ _ _ _ _ => (pe_ix ix_str (pv 3) (pe_op op_mod (pe_op op_fdiv (pv 8) pe_int) (pv 2)) (fun _ _ => rfl)))) pa_nil))) 
  (Evl.pss_cut (ps_if (pt_cmpR op_eq (pe_op op_mod (pe_op op_fdiv (pv 1) pe_int) pe_int) pe_int (nomark _)) 
    (pss_cons (ps_set (i := 7) nd rfl (Or.inl rfl) (pe_op op_add pe_int (pe_op op_mod (pe_op op_fdiv (pv 1) pe_int) pe_int))) 
    (pss_cons (ps_set (i := 5) nd rfl (Or.inl rfl) (pe_slice sl_str (pe_op op_mulS (pe_slice sl_str (pv 5) po_none (po_some (pv 7))) (pe_callB call_len_str (by rfl) T.n_len PySem.boot_len (pa_cons (pv 5) pa_nil))) po_none (po_some (pe_callB call_len_str (by rfl) T.n_len PySem.boot_len (pa_cons (pv 5) pa_nil))))) 
    (pss_one (ps_set (i := 6) nd rfl (Or.inl rfl) (pe_op op_add_str (pe_slice sl_str (pe_op op_mulS (pe_slice sl_str (pv 5) po_none (po_some (pv 7))) (pe_callB call_len_str (by rfl) T.n_len PySem.boot_len (pa_cons (pv 6) pa_nil))) po_none (po_some (pe_callB (call_max2 rfl) (by rfl) T.n_max (by decide +kernel) (pa_cons pe_int (pa_cons (pe_op op_sub (pe_callB call_len_str (by rfl) T.n_len PySem.boot_len (pa_cons (pv 6) pa_nil)) pe_int) pa_nil))))) (pe_ix ix_str (pv 3) (pe_op op_mod (pe_op op_fdiv (pv 1) pe_int) (pv 2)) (fun _ _ => rfl))))))) pss_nil) 
  (pss_one (ps_ret (pe_tup (pa_cons (pv 2) (pa_cons (pe_op op_add_str (pv 5) (pe_ix ix_str (pv 3) (pe_op op_mod (pe_op op_fdiv (pv 1) pe_int) (pv 2)) (fun _ _ => rfl))) (pa_cons (pe_op op_add_str (pv 6) (pe_ix ix_str (pv 3) (pe_op op_mod (pe_op op_fdiv (pv 1) pe_int) (pv 2)) (fun _ _ => rfl))) pa_nil)))))))))))))
      , ?_⟩
    refine q_asg (ev_sum (ev_var rfl) hS) fun H1 e1 => ?_
    generalize ns.sum = M
    -- the sides
    obtain ⟨d, hd, hd0, hd1⟩ : ∃ d : Int, M / 4 % (if decide ((ns.length : Int) < 12) = true then 25 else 5) = d ∧ 0 ≤ d ∧ d < 25 := ⟨_, rfl, by split <;> omega, by split <;> omega⟩
    obtain ⟨s, hs, s2, s26⟩ : ∃ s : Nat, atI [V.int 2, V.int 2, V.int 3, V.int (2 + d)] (M % 4) = some (.int (s : Int)) ∧ 2 ≤ s ∧ s ≤ 26 := by
      have h4 : M % 4 = 0 ∨ M % 4 = 1 ∨ M % 4 = 2 ∨ M % 4 = 3 := by omega
      rcases h4 with h | h | h | h <;> rw [h]
      · exact ⟨2, rfl, by omega, by omega⟩
      · exact ⟨2, rfl, by omega, by omega⟩
      · exact ⟨3, rfl, by omega, by omega⟩
      · refine ⟨(2 + d).toNat, ?_, by omega, by omega⟩
        have : ((2 + d).toNat : Int) = 2 + d := by omega
        rw [this]; rfl
    have hS1 : ∀ {σ : L2.St} {H1 : Hp}, Ex H H1 → Ev (tVar 0) σ H1 (.ref p) → Ev (tCB (rLenS K) (tCons (tVar 0) tNil)) σ H1 (.int (ns.length : Int)) := fun e h => by
      have := ev_len (K := K) h (ex_l e hS)
      rw [List.length_map] at this
      exact this
    refine q_asg (v := .int (s : Int)) (ev_ixU (eu_tup (ea_cons ev_c (ea_cons ev_c (ea_cons ev_c (ea_cons (ev_op (y := .int d) ev_c (ev_is (ev_op (ev_op (ev_var rfl) ev_c (rv_div ⟨by decide, by decide⟩)) (ev_if (v := .int (if decide ((ns.length : Int) < 12) = true then 25 else 5)) (et_test (ev_op (hS1 e1 (ev_var rfl)) ev_c rv_I0)) (fun h => ev_is ev_c (by rw [if_pos h])) (fun h => ev_is ev_c (by rw [if_neg (by rw [h]; exact Bool.false_ne_true)]))) (rv_mod (by split <;> decide))) (by rw [hd])) rv_I0) ea_nil)))) (by show 4 ≤ 100000; decide)) (ev_op (ev_var rfl) ev_c (rv_mod (by decide))) hs) fun H2 e2 => ?_
    refine q_asg (v := .str (S (lets s))) (ev_is (v := .str (S ((lets 26).take s))) (ev_to (ev_is ev_c (by rw [S_abc])) (eo_is (ev_var rfl) rfl) (by rw [let26_len]; omega)) (by rw [lets_take s26])) fun H3 e3 => ?_
    have e13 := (e1.trans e2).trans e3
    -- where they are parted
    obtain ⟨hf, hhf, hfl⟩ : ∃ hf : Nat, (if decide (M / 13 % 3 = 0) = true then (ns.length : Int) / 2 else M / 39 % ((ns.length : Int) + 1)) = (hf : Int) ∧ hf ≤ ns.length := by
      split
      · exact ⟨ns.length / 2, by omega, by omega⟩
      · have h1 := Int.emod_nonneg (M / 39) (show ((ns.length : Int) + 1) ≠ 0 by omega)
        have h2 := Int.emod_lt_of_pos (M / 39) (show (0 : Int) < (ns.length : Int) + 1 by omega)
        exact ⟨(M / 39 % ((ns.length : Int) + 1)).toNat, by omega, by omega⟩
    refine q_asg (v := .int (hf : Int)) (ev_if (et_test (ev_op (ev_op (ev_op (ev_var rfl) ev_c (rv_div ⟨by decide, by decide⟩)) ev_c (rv_mod (by decide))) ev_c rv_eqI)) (fun h => ev_is (ev_op (hS1 e13 (ev_var rfl)) ev_c (rv_div ⟨by decide, by decide⟩)) (by rw [if_pos h] at hhf; rw [hhf])) (fun h => ev_is (ev_op (ev_op (ev_var rfl) ev_c (rv_div ⟨by decide, by decide⟩)) (ev_op (hS1 e13 (ev_var rfl)) ev_c rv_I0) (rv_mod (by omega))) (by rw [if_neg (by rw [h]; exact Bool.false_ne_true)] at hhf; rw [hhf]))) fun H4 e4 => ?_
    have e14 := e13.trans e4
    let lt : Int → Nat := fun n => (n / 3 % (s : Int)).toNat + 97
    have hlt : ∀ n, Over s [lt n] := fun n => Over.one (letter_lt (by omega))
    have hov : ∀ l : List Int, Over s (l.map lt) := fun l c hc => by
      obtain ⟨n, _, rfl⟩ := List.mem_map.mp hc
      exact hlt n _ (by simp)
    refine q_asg (v := .str (S ((ns.take hf).map lt))) (ev_join S_empty (by
      rw [List.map_map]
      exact el_lcV (fun n => V.str (S [lt n])) (el_to (ev_var rfl) (eo_is (ev_var rfl) rfl) (ex_l e14 hS)) (by rw [List.length_take]; omega) (fun _ => rfl) fun n _ H5 e5 => ev_letter (by omega) s26 (ev_var rfl) (ev_op (ev_op (ev_var rfl) ev_c (rv_div ⟨by decide, by decide⟩)) (ev_var rfl) (rv_mod (by omega)))) (by rw [List.length_map, List.length_take]; omega)) fun H5 e5 => ?_
    have e15 := e14.trans e5
    refine q_asg (v := .str (S ((ns.drop hf).map lt))) (ev_join S_empty (by
      rw [List.map_map]
      exact el_lcV (fun n => V.str (S [lt n])) (el_from (ev_var rfl) (eo_is (ev_var rfl) rfl) (ex_l e15 hS)) (by rw [List.length_drop]; omega) (fun _ => rfl) fun n _ H5 e5 => ev_letter (by omega) s26 (ev_var rfl) (ev_op (ev_op (ev_var rfl) ev_c (rv_div ⟨by decide, by decide⟩)) (ev_var rfl) (rv_mod (by omega)))) (by rw [List.length_map, List.length_drop]; omega)) fun H6 e6 => ?_
    have e16 := e15.trans e6
    generalize hA : (ns.take hf).map lt = a
    generalize hB : (ns.drop hf).map lt = b
    have oa : Over s a := by rw [← hA]; exact hov _
    have ob : Over s b := by rw [← hB]; exact hov _
    have la : a.length = hf := by rw [← hA, List.length_map, List.length_take]; omega
    have lb : b.length = ns.length - hf := by rw [← hB, List.length_map, List.length_drop]
    refine Evl.q_cut (M := fun σ' H' => ∃ (a b : Wd) (x y : Option V), σ' = [some (.ref p), some (.int M), some (.int (s : Int)), some (.str (S (lets s))), some (.int (hf : Int)), some (.str (S a)), some (.str (S b)), x, y] ∧ Over s a ∧ Over s b ∧ a.length + b.length ≤ 64 ∧ Ex H H')
      (s_when (et_test (ev_op (ev_op (ev_op (ev_var rfl) ev_c (rv_div ⟨by decide, by decide⟩)) ev_c (rv_mod (by decide))) ev_c rv_eqI)) (fun hb H7 e7 => ?_) (fun hb H7 e7 => ⟨a, b, none, none, rfl, oa, ob, by omega, e16.trans e7⟩)) ?_
    · obtain ⟨g, hg, g1, g4⟩ : ∃ g : Nat, 1 + M / 20 % 4 = (g : Int) ∧ 1 ≤ g ∧ g ≤ 4 := ⟨(1 + M / 20 % 4).toNat, by omega, by omega, by omega⟩
      refine q_asg (v := .int (g : Int)) (ev_is (ev_op ev_c (ev_op (ev_op (ev_var rfl) ev_c (rv_div ⟨by decide, by decide⟩)) ev_c (rv_mod (by decide))) rv_I0) (by rw [hg])) fun H8 e8 => ?_
      have hg4 : ∀ (c : Wd) (n : Nat), n ≤ 63 → (c.take g).length * n ≤ 252 := fun c n h => by
        have h1 : (c.take g).length ≤ 4 := by rw [List.length_take]; omega
        exact Nat.le_trans (Nat.mul_le_mul h1 h) (by decide)
      have rl : ∀ (c : Wd) (n : Nat), ((List.replicate n (c.take g)).flatten).length = n * (c.take g).length := fun c n => by
        rw [List.length_flatten, List.map_replicate, List.sum_replicate_nat]
      refine q_asg (v := .str (S (((List.replicate a.length (a.take g)).flatten).take a.length))) (ev_to (ev_op (ev_to (ev_var rfl) (eo_is (ev_var rfl) rfl) (by omega)) (ev_lenS (ev_var rfl) (by omega)) (rv_mulS (by omega) (Nat.le_trans (hg4 _ _ (by omega)) (by omega)))) (eo_is (ev_lenS (ev_var rfl) (by omega)) rfl) (by rw [rl, Nat.mul_comm]; exact Nat.le_trans (hg4 _ _ (by omega)) (by omega))) fun H9 e9 => ?_
      generalize hA2 : ((List.replicate a.length (a.take g)).flatten).take a.length = a2
      have oa2 : Over s a2 := by rw [← hA2]; exact ((oa.take g).rep _).take _
      have la2 : a2.length ≤ hf := by rw [← hA2, List.length_take]; omega
      refine s_asg (v := .str (S (((List.replicate b.length (a2.take g)).flatten).take (b.length - 1) ++ [(M / 80 % (s : Int)).toNat + 97]))) (ev_op (ev_to (ev_op (ev_to (ev_var rfl) (eo_is (ev_var rfl) rfl) (by omega)) (ev_lenS (ev_var rfl) (by omega)) (rv_mulS (by omega) (Nat.le_trans (hg4 _ _ (by omega)) (by omega)))) (eo_is (ev_max2 ev_c (ev_op (ev_lenS (ev_var rfl) (by omega)) ev_c rv_I0)) (by split <;> omega)) (by rw [rl, Nat.mul_comm]; exact Nat.le_trans (hg4 _ _ (by omega)) (by omega))) (ev_letter (by omega) s26 (ev_var rfl) (ev_op (ev_op (ev_var rfl) ev_c (rv_div ⟨by decide, by decide⟩)) (ev_var rfl) (rv_mod (by omega)))) (rv_addS (by
        rw [List.length_take, List.length_singleton]; omega))) fun H10 e10 => ?_
      exact ⟨a2, _, _, _, rfl, oa2, (((oa2.take g).rep _).take _).app (Over.one (letter_lt (by omega))), by rw [List.length_append, List.length_take, List.length_singleton]; omega, (((e16.trans e7).trans e8).trans e9).trans e10⟩
    · rintro σ' H7 ⟨a, b, x, y, rfl, oa, ob, hl, e7⟩
      refine s_retU (eu_tup (ea_cons (ev_var rfl) (ea_cons (ev_op (ev_var rfl) (ev_letter (by omega) s26 (ev_var rfl) (ev_op (ev_op (ev_var rfl) ev_c (rv_div ⟨by decide, by decide⟩)) (ev_var rfl) (rv_mod (by omega)))) (rv_addS (by rw [List.length_singleton]; omega))) (ea_cons (ev_op (ev_var rfl) (ev_letter (by omega) s26 (ev_var rfl) (ev_op (ev_op (ev_var rfl) ev_c (rv_div ⟨by decide, by decide⟩)) (ev_var rfl) (rv_mod (by omega)))) (rv_addS (by rw [List.length_singleton]; omega))) ea_nil))) (by show 3 ≤ 100000; decide)) fun q H8 hq e8 h8 => ?_
      exact k s _ _ ⟨s2, s26, oa.app (Over.one (letter_lt (by omega))), ob.app (Over.one (letter_lt (by omega))), by rw [List.length_append, List.length_singleton]; omega, by rw [List.length_append, List.length_singleton]; omega,
        by rw [List.length_append, List.length_append, List.length_singleton, List.length_singleton]; omega⟩ q H8 (fresh_back e7 hq) (e7.trans e8) h8
end
end Fw

set_option Elab.async false
set_option linter.all false
set_option maxRecDepth 100000
set_option maxHeartbeats 4000000
namespace Fw
open PySem PySem.Spec PyProof.Rows L2 Evl
/-! ### the law's own looks -/
abbrev sLongest : Stmt := top 27
def spLongest : Sp := PV fun vs H z => ∃ w t : Wd, vs = [.str (S w), .str (S t)] ∧ w.length ≤ 1000 ∧ t.length ≤ 1000 ∧ z = .int (lng w t : Nat)
theorem suf_drop {w t : Wd} {k : Nat} (h1 : k ≤ w.length) (h2 : k ≤ t.length) : w.take k <:+ t ↔ t.drop (t.length - k) = w.take k := by
  rw [List.suffix_iff_eq_drop, take_len h1]
  exact ⟨fun h => h.symm, fun h => h.symm⟩
section
variable {P : Program} {w : World} {K : PySem.W.Frag} {mg : Str → Option Value} {base : Heap} {f : Addr} {fd : FuncData}
theorem scLongest : FnScope ["_law_word", "_law_throws", "_law_many"] ["_law_word", "_law_throws"] (defScope sLongest) := ⟨rfl, rfl, rfl, by decide +kernel, rfl, by decide +kernel, by decide +kernel⟩
theorem ok_longest (T : Tx K mg) (F : L2.Fun K "_law_longest" "_law_longest" sLongest f fd) : FnOk P w K mg base CX0 1 f fd ["_law_word", "_law_throws"] spLongest := by
  refine F.ok scLongest (fun vs H Q E h => ?_) (fun cdv A outer s H vs Q E hr h => ?_)
  · obtain ⟨z, ⟨_, _, rfl, _⟩, _⟩ := h
    rfl
  · obtain ⟨z, ⟨x, t, rfl, hx, ht, rfl⟩, k⟩ := h
    have nd := scLongest.nd
    refine ⟨_, (pss_cons (ps_for PassesOwn.never rfl (pi_range3 (by rfl) T.n_range (pa_cons (pe_callB (call_min2 rfl) (by rfl) T.n_min (by decide +kernel) (pa_cons (pe_callB call_len_str (by rfl) T.n_len PySem.boot_len (pa_cons (pv 0) pa_nil)) (pa_cons (pe_callB call_len_str (by rfl) T.n_len PySem.boot_len (pa_cons (pv 1) pa_nil)) pa_nil))) (pa_cons pe_int (pa_cons (pe_un un_neg pe_int) pa_nil)))) (pg_name (i := 2) nd rfl (Or.inl rfl)) 
    (pss_one (ps_if (pt_cmpR op_eq (pe_slice sl_str (pv 1) (po_some (pe_op op_sub (pe_callB call_len_str (by rfl) T.n_len PySem.boot_len (pa_cons (pv 1) pa_nil)) (pv 2))) po_none) (pe_slice sl_str (pv 0) po_none (po_some (pv 2))) (nomark _)) 
      (pss_one (ps_ret (pv 2))) pss_nil))) 
  (pss_one (ps_ret pe_int))), ?_⟩
    have hm : (if ((t.length : Int) < (x.length : Int)) then (t.length : Int) else (x.length : Int)) = ((min x.length t.length : Nat) : Int) := by split <;> omega
    refine q_forR3 (lo := ((min x.length t.length : Nat) : Int)) (ea_cons (ev_is (ev_min2 (ev_lenS (ev_var rfl) (by omega)) (ev_lenS (ev_var rfl) (by omega))) (by rw [hm])) (ea_cons ev_c (ea_cons (ev_un ev_c ru_neg) ea_nil)))
      (RgC.neg (by omega) (by omega) (by omega) (by omega)) (fun i σ' H' => ∃ a, σ' = [some (.str (S x)), some (.str (S t)), a] ∧ Ex H H' ∧ i ≤ min x.length t.length ∧ ∀ k, min x.length t.length - i < k → k ≤ min x.length t.length → ¬ x.take k <:+ t)
      (fun H1 e1 => ⟨none, rfl, e1, Nat.zero_le _, fun k h1 h2 => by omega⟩) ?_ ?_
    · rintro i σ' H1 hi ⟨a, rfl, e1, hi2, hno⟩
      have hi3 : i < min x.length t.length := by omega
      obtain ⟨j, hj⟩ : ∃ j, j = min x.length t.length - i := ⟨_, rfl⟩
      have e0 : ((min x.length t.length : Nat) : Int) + (i : Int) * -(1 : Int) = (j : Int) := by omega
      rw [e0]
      have sd := suf_drop (w := x) (t := t) (k := j) (by omega) (by omega)
      refine s_when (b := decide (t.drop (t.length - j) = x.take j)) (et_test (ev_op (ev_from (ev_var rfl) (eo_is (ev_op (ev_lenS (ev_var rfl) (by omega)) (ev_var rfl) rv_I0) (by omega)) (by omega)) (ev_to (ev_var rfl) (eo_is (ev_var rfl) rfl) (by omega)) rv_eqS)) (fun hb H2 e2 => ?_) (fun hb H2 e2 => ?_)
      · have hb := sd.mpr (of_decide_eq_true hb)
        refine s_ret (v := .int (lng x t : Nat)) (ev_is (ev_var rfl) ?_) fun H3 e3 => k H3 ((e1.trans e2).trans e3)
        rw [← lng_min, lg_uniq (r := j) (by omega) hb fun k h1 h2 => hno k (by omega) h2]
      · refine ⟨_, rfl, e1.trans e2, by omega, fun k h1 h2 => ?_⟩
        by_cases e : k = j
        · subst e
          exact fun z => of_decide_eq_false hb (sd.mp z)
        · exact hno k (by omega) h2
    · rintro σ' H1 ⟨a, rfl, e1, hi2, hno⟩
      refine s_ret (v := .int (lng x t : Nat)) (ev_is ev_c ?_) fun H3 e3 => k H3 (e1.trans e3)
      rw [← lng_min, lg_uniq (r := 0) (by omega) (by simp) fun k h1 h2 => hno k (by omega) h2]
      rfl
end
end Fw

set_option Elab.async false
set_option linter.all false
set_option maxRecDepth 100000
set_option maxHeartbeats 4000000
namespace Fw
open PySem PySem.Spec PyProof.Rows L2 Evl
theorem sumL_take {f : Nat → Int} {L : List Nat} {j c : Nat} (h : L[j]? = some c) : sumL f (L.take (j + 1)) = sumL f (L.take j) + f c := by
  rw [take_more h]
  unfold sumL
  rw [List.map_append, List.sum_append]
  simp
theorem lets_at {s j c : Nat} (h : (lets s)[j]? = some c) : j < s := by
  have := (List.getElem?_eq_some_iff.mp h).1
  rw [lets_len] at this
  exact this
/-! ### the law's own look at a table -/
abbrev sTable : Stmt := top 29
def spTable : Sp := PV fun vs H z => ∃ (q : Addr) (T : List Int) (s : Nat) (w : Wd), vs = [.int (s : Int), .str (S w), .ref q] ∧ H q = some (.lst (iV T)) ∧ T.length ≤ 10000 ∧ 2 ≤ s ∧ s ≤ 26 ∧ 0 < w.length ∧ w.length ≤ 900 ∧ z = .bl (decide (IsTab s w T))
section
variable {P : Program} {w : World} {K : PySem.W.Frag} {mg : Str → Option Value} {base : Heap} {f : Addr} {fd : FuncData}
theorem scTable : FnScope ["_law_sides", "_law_word", "_law_table_here", "_law_many", "_law_total", "_law_letter"] ["_law_sides", "_law_word", "_law_table_here"] (defScope sTable) := ⟨rfl, rfl, rfl, by decide +kernel, rfl, by decide +kernel, by decide +kernel⟩
theorem ok_table (T : Tx K mg) (F : L2.Fun K "_law_table" "_law_table" sTable f fd) (C__law_longest : Ca P w K mg base 1 "_law_longest" spLongest) : FnOk P w K mg base CX0 2 f fd ["_law_sides", "_law_word", "_law_table_here"] spTable := by
  refine F.ok scTable (fun vs H Q E h => ?_) (fun cdv A outer s H vs Q E hr h => ?_)
  · obtain ⟨_, ⟨_, _, _, _, rfl, _⟩, _⟩ := h
    rfl
  · obtain ⟨z, ⟨q, T', s, x, rfl, hq, hT, s2, s26, h0, hx, rfl⟩, k⟩ := h
    have hr : Room 1 _ := hr
    have nd := scTable.nd
    refine ⟨_, (pss_cons (ps_if (PW.pt (pw_or (pt_cmpR op_ne (pe_callB call_len_seq (by rfl) T.n_len PySem.boot_len (pa_cons (pv 2) pa_nil)) (pe_op op_add (pe_callB call_len_str (by rfl) T.n_len PySem.boot_len (pa_cons (pv 1) pa_nil)) pe_int) (nomark _)) (pw_or1 (pt_cmpR op_ne (pe_ix ix_list (pv 2) (pe_un un_neg pe_int) (fun _ _ => rfl)) pe_int (nomark _))))) 
    (pss_one (ps_ret pe_bl)) pss_nil) 
  (pss_cons (ps_for PassesOwn.never rfl (pi_range1 (by rfl) T.n_range (pa_cons (pe_callB call_len_str (by rfl) T.n_len PySem.boot_len (pa_cons (pv 1) pa_nil)) pa_nil)) (pg_name (i := 3) nd rfl (Or.inl rfl)) 
    (pss_cons (ps_set (i := 4) nd rfl (Or.inl rfl) (pv 0)) 
    (pss_cons (ps_for PassesOwn.never rfl (pi_str (pe_slice sl_str pe_str po_none (po_some (pv 0)))) (pg_name (i := 5) nd rfl (Or.inl rfl)) 
      (pss_one (ps_set (i := 4) nd rfl (Or.inl rfl) (pe_op op_add (pv 4) (pe_ix ix_list (pv 2) (pe_ca C__law_longest hr (pa_cons (pv 1) (pa_cons (pe_op op_add_str (pe_slice sl_str (pv 1) po_none (po_some (pv 3))) (pv 5)) pa_nil))) (fun _ _ => rfl)))))) 
    (pss_one (ps_if (pt_cmpR op_ne (pe_op op_mul (pv 0) (pe_ix ix_list (pv 2) (pv 3) (fun _ _ => rfl))) (pv 4) (nomark _)) 
      (pss_one (ps_ret pe_bl)) pss_nil))))) 
  (pss_one (ps_ret pe_bl)))), ?_⟩
    have hlen : ∀ {σ : L2.St} {H1 : Hp}, Ex H H1 → Ev (tVar 2) σ H1 (.ref q) → Ev (tCB (rLenS K) (tCons (tVar 2) tNil)) σ H1 (.int (T'.length : Int)) := fun e h => by
      have := ev_len (K := K) h (sq_of (e _ _ hq))
      rw [List.length_map] at this
      exact this
    refine q_if (b := !decide ((T'.length : Int) = (x.length : Int) + 1) || !decide (at0 T' x.length = 0)) (et_or (et_test (ev_op (hlen (Ex.refl _) (ev_var rfl)) (ev_op (ev_lenS (ev_var rfl) (by omega)) ev_c rv_I0) rv_neI)) (fun hb => ?_)) (fun hb H1 e1 => ?_) (fun hb H1 e1 => ?_)
    · rw [Bool.not_eq_false', decide_eq_true_eq] at hb
      refine et_test (ev_op (ev_op (ev_var rfl) (ev_un ev_c ru_neg) (rv_iLast (v := at0 T' x.length) (sq_of hq) (by omega) ?_)) ev_c rv_neI)
      rw [show T'.length - 1 = x.length by omega]
      exact at0_get (by omega)
    · refine s_ret (v := .bl (decide (IsTab s x T'))) (ev_is ev_c ?_) fun H2 e2 => k H2 (e1.trans e2)
      rw [decide_eq_false]
      rintro ⟨t1, t2, _⟩
      rw [decide_eq_true (by omega), decide_eq_true t2] at hb
      exact absurd hb (by decide)
    · have hb1 : T'.length = x.length + 1 ∧ at0 T' x.length = 0 := by
        rw [Bool.or_eq_false_iff, Bool.not_eq_false', Bool.not_eq_false', decide_eq_true_eq, decide_eq_true_eq] at hb
        exact ⟨by omega, hb.2⟩
      refine q_forR1 (n := (x.length : Int)) (ea_cons (ev_lenS (ev_var rfl) (by omega)) ea_nil) ⟨by omega, by omega⟩
        (fun i σ' H' => ∃ a b c, σ' = [some (.int (s : Int)), some (.str (S x)), some (.ref q), a, b, c] ∧ Ex H H' ∧
          ∀ k, k < i → (s : Int) * at0 T' k = s + sumL (fun c => at0 T' (nx x k c)) (lets s))
        (fun H3 e3 => ⟨none, none, none, rfl, e1.trans e3, fun k hk => by omega⟩) ?_ ?_
      · rintro i σ' H3 hi ⟨a, b, c, rfl, e3, hall⟩
        have hi : i < x.length := by omega
        refine q_asg (ev_var rfl) fun H4 e4 => ?_
        refine q_forS (w := lets s) (ev_is (v := .str (S ((lets 26).take s))) (ev_to (ev_is ev_c (by rw [S_abc])) (eo_is (ev_var rfl) rfl) (by rw [let26_len]; omega)) (by rw [lets_take s26]))
          (fun j σ' H' => ∃ c, σ' = [some (.int (s : Int)), some (.str (S x)), some (.ref q), some (.int (i : Int)), some (.int (s + sumL (fun c => at0 T' (nx x i c)) ((lets s).take j))), c] ∧ Ex H H')
          (fun H5 e5 => ⟨c, by rw [List.take_zero, sumL_nil, Int.add_zero]; rfl, (e3.trans e4).trans e5⟩) ?_ ?_
        · rintro j c σ' H5 hc ⟨c', rfl, e5⟩
          have lx : (x.take i).length ≤ 900 := by rw [List.length_take]; omega
          refine s_asg (v := .int (s + sumL (fun c => at0 T' (nx x i c)) ((lets s).take (j + 1)))) (ev_is (ev_op (ev_var rfl) (ev_op (ev_var rfl) (ev_pv (ea_cons (ev_var rfl) (ea_cons (ev_op (ev_to (ev_var rfl) (eo_is (ev_var rfl) rfl) (by omega)) (ev_var rfl) (rv_addS (by rw [List.length_singleton]; omega))) ea_nil)) fun _ _ => ⟨x, x.take i ++ [c], rfl, by omega, by rw [List.length_append, List.length_singleton]; omega, rfl⟩) (rv_iT (sq_of (e5 _ _ hq)) (by have := lng_le x (x.take i ++ [c]); omega))) rv_I0) (by rw [sumL_take hc, ← Int.add_assoc]; rfl)) fun H6 e6 => ⟨_, rfl, e5.trans e6⟩
        · rintro σ' H5 ⟨c', rfl, e5⟩
          rw [List.take_length]
          refine s_when (b := !decide ((s : Int) * at0 T' i = s + sumL (fun c => at0 T' (nx x i c)) (lets s))) (et_test (ev_op (ev_op (ev_var rfl) (ev_op (ev_var rfl) (ev_var rfl) (rv_iT (sq_of (e5 _ _ hq)) (by omega))) (rv_mulL (by omega))) (ev_var rfl) rv_neI)) (fun hb H6 e6 => ?_) (fun hb H6 e6 => ?_)
          · rw [Bool.not_eq_true', decide_eq_false_iff_not] at hb
            refine s_ret (v := .bl (decide (IsTab s x T'))) (ev_is ev_c ?_) fun H7 e7 => k H7 ((e5.trans e6).trans e7)
            rw [decide_eq_false]
            exact fun z => hb (z.2.2 i hi)
          · rw [Bool.not_eq_false', decide_eq_true_eq] at hb
            refine ⟨_, _, _, rfl, e5.trans e6, fun k hk => ?_⟩
            by_cases e : k = i
            · subst e
              exact hb
            · exact hall k (by omega)
      · rintro σ' H3 ⟨a, b, c, rfl, e3, hall⟩
        refine s_ret (v := .bl (decide (IsTab s x T'))) (ev_is ev_c ?_) fun H6 e6 => k H6 (e3.trans e6)
        rw [decide_eq_true]
        exact ⟨hb1.1, hb1.2, fun k hk => hall k (by omega)⟩
/-- x = f(..), by the promise itself -/
theorem q_asgC {σ : L2.St} {H : Hp} {ta : TA} {sp : Sp} {vs : List V} {E : XK} {i : Nat} {tz : TS} {D : Ends} (h : EvA ta σ H vs) (k : ∀ H1, Ex H H1 → sp (vs ++ []) H1 (fun v H2 => tz D (σ.set i (some v)) H2) E) : tSeq (tAsg (tCall sp [] E ta) (gName i)) tz D σ H :=
  h H (Ex.refl H) _ k
end
end Fw

set_option Elab.async false
set_option linter.all false
set_option maxRecDepth 100000
set_option maxHeartbeats 4000000
namespace Fw
open PySem PySem.Spec PyProof.Rows L2 Evl
abbrev sLaw : Stmt := top 32
abbrev lawLN : List Str := ["_law_script", "_law_sides", "_law_word", "_law_other", "_law_table_here", "_law_apart", "_law_told", "_law_cell", "_law_drawn", "_law_some", "_law_handed", "_law_answer", "_law_whole", "_law_due", "_law_one"]
def spLaw (K : PySem.W.Frag) : Sp := fun vs H Q _ => ∃ (a : Addr) (ns : List Int), vs = [.ref a] ∧ SqL K H a (ns.map V.int) ∧ ns.length ≤ 63 ∧ ∀ H', Q (.bl true) H'
theorem S_a : Str.ofString "a" = S [97] := by decide +kernel
theorem S_b : Str.ofString "b" = S [98] := by decide +kernel
theorem hand_wait : IsTab 2 [97] [2, 0] := by decide +kernel
theorem hand_race : IsRace 2 [97] [98] (sts [97] [98]) [1, 2, 0] 2 := by decide +kernel
section
variable {P : Program} {w : World} {K : PySem.W.Frag} {mg : Str → Option Value} {base : Heap} {f C CR : Addr} {fd : FuncData}
theorem scLaw : FnScope lawLN ["_law_script"] (defScope sLaw) := ⟨rfl, rfl, rfl, by decide +kernel, rfl, by decide +kernel, by decide +kernel⟩
theorem ok_law (T : Tx K mg) (TW : TxW K mg C) (TR : TxR K mg CR) (F : L2.Fun K "law" "law" sLaw f fd) (C__law_words : Ca P w K mg base 1 "_law_words" (spLawWords K)) (C__law_says : Ca P w K mg base 1 "_law_says" spSays) (C__law_table : Ca P w K mg base 2 "_law_table" spTable) (C__law_race : Ca P w K mg base 2 "_law_race" spLawRace) (C__law_bent : Ca P w K mg base 1 "_law_bent" spBent)
    (C_waits : Ca P w K mg base 3 "waits" (spWaits C)) (C_race : Ca P w K mg base 3 "race" (spRace CR)) (N_Wait : Ma P w K mg base 1 "Wait" C (spWaitInit C)) (N_Race : Ma P w K mg base 1 "Race" CR (spRaceInit CR)) (M_Wait_shows : Me P w K mg base 2 C "shows" (spWaitShows C)) (M_Race_shows : Me P w K mg base 2 CR "shows" (spRaceShows CR)) :
    FnOk P w K mg base CX0 4 f fd ["_law_script"] (spLaw K) := by
  refine F.ok scLaw (fun vs H Q E h => ?_) (fun cdv A outer s H vs Q E hr h => ?_)
  · obtain ⟨_, _, rfl, _⟩ := h
    rfl
  · obtain ⟨a, ns, rfl, hS, hn, k⟩ := h
    have hr : Room 3 _ := hr
    have nd := scLaw.nd
    refine ⟨_, (pss_cons (ps_asg (pe_ca C__law_words hr (pa_cons (pv 0) pa_nil)) (pg_tup rfl (pgs_cons (pg_name (i := 1) nd rfl (Or.inl rfl)) (pgs_cons (pg_name (i := 2) nd rfl (Or.inl rfl)) (pgs_cons (pg_name (i := 3) nd rfl (Or.inl rfl)) pgs_nil))))) 
  (pss_cons (ps_set (i := 2) nd rfl (Or.inl rfl) (pe_slice sl_str (pv 2) (po_some (pe_un un_neg pe_int)) po_none)) 
  (pss_cons (ps_set (i := 3) nd rfl (Or.inl rfl) (pe_slice sl_str (pv 3) (po_some (pe_op op_sub (pe_un un_neg pe_int) (pe_op op_mod (pe_op op_fdiv (pe_callB (cr_sum rfl) (by rfl) T.n_sum (by decide +kernel) (pa_cons (pv 0) pa_nil)) pe_int) pe_int))) po_none)) 
  (pss_cons (ps_set (i := 4) nd rfl (Or.inl rfl) (pe_fld (pe_ca C_waits hr (pa_cons (pv 1) (pa_cons (pv 2) pa_nil))) rfl)) 
  (pss_cons (ps_set (i := 5) nd rfl (Or.inl rfl) (pe_and (pe_cmpR op_notIn_str (pv 2) (pv 3) rfl) (pe_one (pe_cmpR op_notIn_str (pv 3) (pv 2) rfl)))) 
  (pss_cons (ps_set (i := 6) nd rfl (Or.inl rfl) (pe_ifExp (pt_val (pv 5)) (pe_ca C_race hr (pa_cons (pv 1) (pa_cons (pv 2) (pa_cons (pv 3) pa_nil)))) (pe_ma N_Race hr (pa_cons (pe_lst pa_nil) (pa_cons pe_int pa_nil))))) 
  (pss_cons (ps_for PassesOwn.never rfl (pi_list (pe_op op_cat (pe_slice sl_list (pv 0) po_none (po_some pe_int)) (pe_stepL (by decide) (pv 0) (po_some pe_int)))) (pg_name (i := 7) nd rfl (Or.inl rfl)) 
    (pss_cons (ps_set (i := 8) nd rfl (Or.inl rfl) (pe_op op_cat (pe_lc (own := [("_law_one", 14)]) (g := gName 14) (by rfl) nd (pi_list (pe_slice sl_list (pv 0) po_none (po_some (pe_callB call_len_str (by rfl) T.n_len PySem.boot_len (pa_cons (pv 2) pa_nil))))) (blkOk_by (own := [("_law_one", 14)]) (N := lawLN) (sc := defScope sLaw) (by decide +kernel)) (fun _ _ _ _ _ => pg_name (i := 14) nd rfl (Or.inl rfl)) (fun _ _ _ _ _ => pts_nil) (fun _ _ _ _ _ => (pe_op op_mod (pv 14) pe_int))) (pe_lst (pa_cons pe_int pa_nil)))) 
    (pss_cons (ps_for PassesOwn.never rfl (pi_list (pe_lst (pa_cons (pe_ca C__law_bent hr (pa_cons (pv 4) (pa_cons (pv 7) pa_nil))) (pa_cons (pv 8) pa_nil)))) (pg_name (i := 9) nd rfl (Or.inl rfl)) 
      (pss_cons (ps_set (i := 10) nd rfl (Or.inl rfl) (pe_callTy call_list_of (by rfl) T.n_list (by decide +kernel) (pa_cons (pv 9) pa_nil))) 
      (pss_cons (ps_set (i := 11) nd rfl (Or.inl rfl) (pe_ma N_Wait hr (pa_cons (pv 10) pa_nil))) 
      (pss_cons (ps_expr (pe_bm PySem.F.plainAttrs_list PySem.F.slot_list_append PySem.F.type_list_append mt_append (pv 10) (pa_cons pe_int pa_nil))) 
      (pss_cons (ps_if (pt_cmpR (op_neD hr.units) (pe_fld (pv 11) rfl) (pv 9) (nomark _)) 
        (pss_one (ps_ret pe_bl)) pss_nil) 
      (pss_one (ps_if (pt_not (pt_val (pe_ca C__law_says hr (pa_cons (pe_me M_Wait_shows hr (pv 11) (pa_cons (pv 1) (pa_cons (pv 2) pa_nil))) (pa_cons (pe_ca C__law_table hr (pa_cons (pv 1) (pa_cons (pv 2) (pa_cons (pv 9) pa_nil)))) pa_nil))))) 
        (pss_one (ps_ret pe_bl)) pss_nil))))))) 
    (pss_cons (ps_set (i := 9) nd rfl (Or.inl rfl) (pe_ca C__law_bent hr (pa_cons (pe_fld (pv 6) rfl) (pa_cons (pv 7) pa_nil)))) 
    (pss_cons (ps_set (i := 12) nd rfl (Or.inl rfl) (pe_op op_add (pe_op op_mul (pe_fld (pv 6) rfl) (pe_ifExp (pt_cmpR op_eq (pe_op op_mod (pv 7) pe_int) pe_int (nomark _)) pe_int pe_int)) (pe_ifExp (pt_cmpR op_eq (pe_op op_mod (pe_op op_fdiv (pv 7) pe_int) pe_int) pe_int (nomark _)) pe_int pe_int))) 
    (Evl.pss_cut (ps_if (pt_cmpR op_eq (pe_op op_mod (pe_op op_fdiv (pv 7) pe_int) pe_int) pe_int (nomark _)) 
      (pss_cons (ps_setLc (i := 9) (own := [("_law_one", 14)]) (g := gName 14) (by rfl) nd rfl rfl (sw_true rfl rfl rfl (by decide +kernel)) (pi_list (pv 9)) (blkOk_by (own := [("_law_one", 14)]) (N := lawLN) (sc := defScope sLaw) (by decide +kernel)) (fun _ _ _ _ _ => pg_name (i := 14) nd rfl (Or.inl rfl)) (fun _ _ _ _ _ => pts_nil) (fun _ _ _ _ _ => pe_int)) 
      (pss_one (ps_set (i := 12) nd rfl (Or.inl rfl) pe_int))) pss_nil) 
    (Evl.pss_cut (ps_if (pt_cmpR op_eq (pe_op op_mod (pe_op op_fdiv (pv 7) pe_int) pe_int) pe_int (nomark _)) 
      (pss_cons (ps_setLc (i := 9) (own := [("_law_one", 14)]) (g := gName 14) (by rfl) nd rfl rfl (sw_true rfl rfl rfl (by decide +kernel)) (pi_list (pv 9)) (blkOk_by (own := [("_law_one", 14)]) (N := lawLN) (sc := defScope sLaw) (by decide +kernel)) (fun _ _ _ _ _ => pg_name (i := 14) nd rfl (Or.inl rfl)) (fun _ _ _ _ _ => pts_nil) (fun _ _ _ _ _ => (pe_un un_neg (pv 14)))) 
      (pss_one (ps_set (i := 12) nd rfl (Or.inl rfl) (pe_un un_neg (pv 12))))) pss_nil) 
    (pss_cons (ps_set (i := 10) nd rfl (Or.inl rfl) (pe_callTy call_list_of (by rfl) T.n_list (by decide +kernel) (pa_cons (pv 9) pa_nil))) 
    (pss_cons (ps_set (i := 11) nd rfl (Or.inl rfl) (pe_ma N_Race hr (pa_cons (pv 10) (pa_cons (pv 12) pa_nil)))) 
    (pss_cons (ps_expr (pe_bm PySem.F.plainAttrs_list PySem.F.slot_list_append PySem.F.type_list_append mt_append (pv 10) (pa_cons pe_int pa_nil))) 
    (pss_cons (ps_if (PW.pt (pw_or (pt_cmpR (op_neD hr.units) (pe_fld (pv 11) rfl) (pv 9) (nomark _)) (pw_or1 (pt_cmpR op_ne (pe_fld (pv 11) rfl) (pv 12) (nomark _))))) 
      (pss_one (ps_ret pe_bl)) pss_nil) 
    (pss_cons (ps_set (i := 13) nd rfl (Or.inl rfl) (pe_ifExp (pt_val (pv 5)) (pe_ca C__law_race hr (pa_cons (pv 1) (pa_cons (pv 2) (pa_cons (pv 3) (pa_cons (pv 9) (pa_cons (pv 12) pa_nil)))))) pe_bl)) 
    (pss_one (ps_if (PW.pt (pw_and (pt_val (pv 5)) (pw_and1 (pt_not (pt_val (pe_ca C__law_says hr (pa_cons (pe_me M_Race_shows hr (pv 11) (pa_cons (pv 1) (pa_cons (pv 2) (pa_cons (pv 3) pa_nil)))) (pa_cons (pv 13) pa_nil)))))))) 
      (pss_one (ps_ret pe_bl)) pss_nil)))))))))))))) 
  (pss_one (ps_ret (pe_and (pe_ca C__law_says hr (pa_cons (pe_me M_Wait_shows hr (pe_ma N_Wait hr (pa_cons (pe_lst (pa_cons pe_int (pa_cons pe_int pa_nil))) pa_nil)) (pa_cons pe_int (pa_cons pe_str pa_nil))) (pa_cons pe_bl pa_nil))) (pe_one (pe_ca C__law_says hr (pa_cons (pe_me M_Race_shows hr (pe_ma N_Race hr (pa_cons (pe_lst (pa_cons pe_int (pa_cons pe_int (pa_cons pe_int pa_nil)))) (pa_cons pe_int pa_nil))) (pa_cons pe_int (pa_cons pe_str (pa_cons pe_str pa_nil)))) (pa_cons pe_bl pa_nil)))))))))))))), ?_⟩
    refine ⟨_, rfl, a, ns, rfl, hS, hn, fun s x y D q H1 hq e1 h1 => ⟨q, _, rfl, st_of h1, rfl, _, _, rfl, _, _, rfl, _, _, rfl, rfl, ?_⟩⟩
    have s2 := D.s2
    have s26 := D.s26
    have dl := D.len
    have a0 := D.a0
    have b0 := D.b0
    -- the last letters of each
    refine q_asg (v := .str (S (x.drop (x.length - 12)))) (ev_end (k := 12) (ev_var rfl) (eo_some (ev_un ev_c ru_neg)) (by decide) (by omega)) fun H2 e2 => ?_
    obtain ⟨x1, hx1⟩ : ∃ x1, x.drop (x.length - 12) = x1 := ⟨_, rfl⟩
    have lx : 0 < x1.length ∧ x1.length ≤ 12 := by rw [← hx1, List.length_drop]; omega
    have ox : Over s x1 := by rw [← hx1]; exact D.oa.drop _
    rw [hx1]
    obtain ⟨g, hg, gl⟩ : ∃ g : Nat, ns.sum / 5 % 12 = (g : Int) ∧ g < 12 := by
      have h1 := Int.emod_nonneg (ns.sum / 5) (show (12 : Int) ≠ 0 by decide)
      have h2 := Int.emod_lt_of_pos (ns.sum / 5) (show (0 : Int) < 12 by decide)
      exact ⟨(ns.sum / 5 % 12).toNat, by omega, by omega⟩
    have e12 := e1.trans e2
    refine q_asg (v := .str (S (y.drop (y.length - (g + 1))))) (ev_end (k := g + 1) (ev_var rfl) (by
      have e0 : (-(1 : Int)) - ns.sum / 5 % 12 = -((g + 1 : Nat) : Int) := by rw [hg]; omega
      rw [← e0]
      exact eo_some (ev_op (ev_un ev_c ru_neg) (ev_op (ev_op (ev_sum (ev_var rfl) (ex_l e12 hS)) ev_c (rv_div ⟨by decide, by decide⟩)) ev_c (rv_mod (by decide))) rv_I0)) (by omega) (by omega)) fun H3 e3 => ?_
    obtain ⟨y1, hy1⟩ : ∃ y1, y.drop (y.length - (g + 1)) = y1 := ⟨_, rfl⟩
    have ly : 0 < y1.length ∧ y1.length ≤ 66 := by rw [← hy1, List.length_drop]; omega
    have oy : Over s y1 := by rw [← hy1]; exact D.ob.drop _
    rw [hy1]
    -- the table, and a race where there is one
    refine q_asgL (el_waitTab TW (ea_cons (ev_var rfl) (ea_cons (ev_var rfl) ea_nil)) s2 s26 lx.1 (by omega) ox) fun rt H4 hrt e4 h4 => ?_
    refine q_asg (v := .bl (!decide (x1 <:+: y1) && !decide (y1 <:+: x1))) (ev_andV (ev_op (ev_var rfl) (ev_var rfl) rv_niS) fun _ => ev_op (ev_var rfl) (ev_var rfl) rv_niS) fun H5 e5 => ?_
    obtain ⟨ap, hap⟩ : ∃ ap : Bool, (!decide (x1 <:+: y1) && !decide (y1 <:+: x1)) = ap := ⟨_, rfl⟩
    rw [hap]
    have lt := tabl_len (s : Int) x1
    generalize tabl (s : Int) x1 = Tt at h4 lt
    refine q_asgP (R := Told CR 200) (ep_if (et_B (ev_var rfl)) (fun hb => ?_) (fun hb => ep_ofR (T := []) (er_makeL (el_lst ea_nil (by show 0 ≤ 100000; decide)) ev_c) (by show 0 ≤ 200; decide))) fun v H6 e6 hv => ?_
    · rw [hb, Bool.and_eq_true, Bool.not_eq_true', Bool.not_eq_true', decide_eq_false_iff_not, decide_eq_false_iff_not] at hap
      exact ep_race (ea_cons (ev_var rfl) (ea_cons (ev_var rfl) (ea_cons (ev_var rfl) ea_nil))) ⟨s2, s26, ox, oy, lx.1, ly.1, by omega, by omega, hap.1, hap.2⟩ (by omega)
    obtain ⟨tp, tq, tdx, TP, Wt, rfl, h6p, h6q, hTP⟩ := hv
    have h6t := e6 _ _ (e5 _ _ h4)
    have h6S := ex_l ((((e12.trans e3).trans e4).trans e5).trans e6) hS
    refine q_forI (ei_cat (ei_sl (ev_var rfl) eo_none (eo_some ev_c) h6S) (ei_step (ev_var rfl) (eo_some ev_c) h6S) (by omega)) fun rc TC H7 hrc e7 h7 hTC => ?_
    have h7p := e7 _ _ h6p
    have h7q := e7 _ _ h6q
    have h7t := e7 _ _ h6t
    have h7S := ex_l e7 h6S
    refine q_forLn (K := K) (xs := iV TC) ev_c (sq_of h7) (fun i σ' H' => ∃ u7 u8 u9 u10 u11 u12 u13, σ' = [some (.ref a), some (.int (s : Int)), some (.str (S x1)), some (.str (S y1)), some (.ref rt), some (.bl ap), some (.ref tp), u7, u8, u9, u10, u11, u12, u13, none] ∧ Ex H7 H')
      (fun H8 e8 => ⟨_, _, _, _, _, _, _, rfl, e8⟩) (fun i σ' H' _ ⟨_, _, _, _, _, _, _, _, e⟩ => sq_of (e _ _ h7)) ?_ ?_
    · rintro i v σ' H8 hv ⟨u7, u8, u9, u10, u11, u12, u13, rfl, e8⟩
      obtain ⟨c, hc, rfl⟩ := iV_at hv
      have h8S := ex_l e8 h7S
      refine q_asgI (ei_cat (ei_lc (fun i => i % 40) (ei_sl (ev_var rfl) eo_none (eo_some (ev_lenS (ev_var rfl) (by omega))) h8S) (by omega) (fun _ => rfl) fun i H9 e9 => ev_op (ev_var rfl) ev_c (rv_mod (by decide))) (ei_of (n := 1) (T := [0]) (el_lst (ea_cons ev_c ea_nil) (by show 1 ≤ 100000; decide)) (by show 1 ≤ 1; decide)) (by omega)) fun rd TD H9 hrd e9 h9 hTD => ?_
      have e79 := e8.trans e9
      refine q_forIV (n := 3001) (ei_bent (ea_cons (ev_var rfl) (ea_cons (ev_var rfl) ea_nil)) (e79 _ _ h7t) (by omega)) (ev_var rfl) fun rb TB rl H10 hrb e10 h10b hTB h10l => ?_
      have h10d := e10 _ _ h9
      have e710 := e79.trans e10
      refine q_forLn (K := K) (xs := [.ref rb, .ref rd]) ev_c (sq_of h10l) (fun j σ' H' => ∃ v9 v10 v11, σ' = [some (.ref a), some (.int (s : Int)), some (.str (S x1)), some (.str (S y1)), some (.ref rt), some (.bl ap), some (.ref tp), some (.int c), some (.ref rd), v9, v10, v11, u12, u13, none] ∧ Ex H10 H')
        (fun H11 e11 => ⟨_, _, _, rfl, e11⟩) (fun i σ' H' _ ⟨_, _, _, _, e⟩ => sq_of (e _ _ h10l)) ?_ ?_
      · rintro j v σ' H11 hj ⟨v9, v10, v11, rfl, e11⟩
        obtain ⟨ru, TU, rfl, h11u, lTU⟩ : ∃ (ru : Addr) (TU : List Int), v = .ref ru ∧ H11 ru = some (.lst (iV TU)) ∧ TU.length ≤ 3001 := by
          match j, hj with
          | 0, hj => exact ⟨rb, TB, (Option.some.inj hj).symm, e11 _ _ h10b, hTB⟩
          | 1, hj => exact ⟨rd, TD, (Option.some.inj hj).symm, e11 _ _ h10d, by omega⟩
          | j + 2, hj => simp at hj
        refine q_asgL (el_list (K := K) (ev_var rfl) (sq_of h11u)) fun rh H12 hrh e12 h12 => ?_
        refine q_asgW (ew_make (ev_var rfl) h12) fun p q dx H13 hp hq hne e13 h13p h13q => ?_
        refine q_app (l := rh) (xs := iV TU) (e13 _ _ h12) (ev_var rfl) ev_c (by rw [List.length_map]; omega) fun H14 e14 => ?_
        have n1 : p ≠ rh := (ne_of_none h12 hp).symm
        have n2 : q ≠ rh := (ne_of_none h12 hq).symm
        have n3 : ru ≠ rh := ne_of_none h11u hrh
        have e15 : Ex H11 (upd H14 rh (.lst (iV TU ++ [.int 0]))) := Ex.mut ((e12.trans e13).trans e14) hrh
        have h15p : (upd H14 rh (.lst (iV TU ++ [.int 0]))) p = some (.ins C dx (wf q)) := (upd_ne n1).trans (e14 _ _ h13p)
        have h15q : (upd H14 rh (.lst (iV TU ++ [.int 0]))) q = some (.lst (iV TU)) := (upd_ne n2).trans (e14 _ _ h13q)
        have h15u := e15 _ _ h11u
        generalize upd H14 rh (.lst (iV TU ++ [.int 0])) = H15 at e15 h15p h15q h15u
        refine q_not (K := K) (et_test (ev_op (ev_fld (ev_var rfl) h15p TW.cl TW.nT (wf_table q)) (ev_var rfl) (rv_neL (sq_of h15q) (sq_of h15u)))) fun H16 e16 => ?_
        have h16p := e16 _ _ h15p
        have h16q := e16 _ _ h15q
        have h16u := e16 _ _ h15u
        refine s_not (K := K) (et_is (et_not (et_B (ev_pv (z := .bl true) (ea_cons (ev_me (R := _) (z := .bl (decide (IsTab s x1 TU))) (ev_var rfl) h16p (wf_no q (by decide +kernel)) (ea_cons (ev_var rfl) (ea_cons (ev_var rfl) ea_nil)) fun H17 e17 => ⟨p, dx, q, TU, s, x1, rfl, e17 _ _ h16p, e17 _ _ h16q, by omega, s2, s26, lx.1, by omega, rfl⟩)
          (ea_cons (ev_pv (z := .bl (decide (IsTab s x1 TU))) (ea_cons (ev_var rfl) (ea_cons (ev_var rfl) (ea_cons (ev_var rfl) ea_nil))) fun H17 e17 => ⟨ru, TU, s, x1, rfl, e17 _ _ h16u, by omega, s2, s26, lx.1, by omega, rfl⟩) ea_nil)) fun _ _ => ⟨_, _, rfl, by rw [decide_eq_true rfl]⟩))) rfl) fun H17 e17 => ?_
        exact ⟨_, _, _, rfl, ((e11.trans e15).trans e16).trans e17⟩
      · rintro σ' H11 ⟨v9, v10, v11, rfl, e11⟩
        have e711 := e710.trans e11
        have h11p := e711 _ _ h7p
        have h11q := e711 _ _ h7q
        refine q_asgI (n := 3001) (ei_bent (ea_cons (ev_fld (ev_var rfl) h11p TR.cl TR.nP (rf_parts tq Wt)) (ea_cons (ev_var rfl) ea_nil)) h11q (by omega)) fun rs TS H12 hrs e12 h12 hTS => ?_
        have e712 := e711.trans e12
        refine q_asg (v := .int (Wt * (if decide (c % 7 = 5) = true then 2 else 1) + (if decide (c / 49 % 5 = 1) = true then 1 else 0)))
          (ev_op (ev_op (ev_fld (ev_var rfl) (e12 _ _ h11p) TR.cl TR.nW (rf_whole tq Wt)) (ev_if (et_test (ev_op (ev_op (ev_var rfl) ev_c (rv_mod (by decide))) ev_c rv_eqI)) (fun hb => ev_is ev_c (by rw [if_pos hb])) (fun hb => ev_is ev_c (by rw [if_neg (by rw [hb]; exact Bool.false_ne_true)]))) (rv_mulR (by split <;> decide)))
            (ev_if (et_test (ev_op (ev_op (ev_op (ev_var rfl) ev_c (rv_div ⟨by decide, by decide⟩)) ev_c (rv_mod (by decide))) ev_c rv_eqI)) (fun hb => ev_is ev_c (by rw [if_pos hb])) (fun hb => ev_is ev_c (by rw [if_neg (by rw [hb]; exact Bool.false_ne_true)]))) rv_I0) fun H13 e13 => ?_
        generalize Wt * (if decide (c % 7 = 5) = true then 2 else 1) + (if decide (c / 49 % 5 = 1) = true then 1 else 0) = Wa
        have h13 := e13 _ _ h12
        have e713 := e712.trans e13
        refine Evl.q_cut (M := fun σ' H' => ∃ ru TU Wh, σ' = [some (.ref a), some (.int (s : Int)), some (.str (S x1)), some (.str (S y1)), some (.ref rt), some (.bl ap), some (.ref tp), some (.int c), some (.ref rd), some (.ref ru), v10, v11, some (.int Wh), u13, none] ∧ Ex H7 H' ∧ H' ru = some (.lst (iV TU)) ∧ TU.length ≤ 3001)
          (s_when (b := decide (c / 49 % 5 = 2)) (et_test (ev_op (ev_op (ev_op (ev_var rfl) ev_c (rv_div ⟨by decide, by decide⟩)) ev_c (rv_mod (by decide))) ev_c rv_eqI)) (fun hb H14 e14 => ?_) (fun hb H14 e14 => ⟨rs, TS, Wa, rfl, e713.trans e14, e14 _ _ h13, hTS⟩)) ?_
        · refine q_asgI (ei_lcV (fun _ => 0) (ev_var rfl) (sq_of (e14 _ _ h13)) (by omega) (fun _ => rfl) fun i H15 e15 => ev_c) fun r0 T0 H15 hr0 e15 h15 hT0 => ?_
          exact s_asg ev_c fun H16 e16 => ⟨r0, T0, 0, rfl, ((e713.trans e14).trans e15).trans e16, e16 _ _ h15, by omega⟩
        rintro σ' H14 ⟨rs, TS, Wa, rfl, e714, h14, hTS⟩
        refine Evl.q_cut (M := fun σ' H' => ∃ ru TU Wh, σ' = [some (.ref a), some (.int (s : Int)), some (.str (S x1)), some (.str (S y1)), some (.ref rt), some (.bl ap), some (.ref tp), some (.int c), some (.ref rd), some (.ref ru), v10, v11, some (.int Wh), u13, none] ∧ Ex H7 H' ∧ H' ru = some (.lst (iV TU)) ∧ TU.length ≤ 3001)
          (s_when (b := decide (c / 49 % 5 = 3)) (et_test (ev_op (ev_op (ev_op (ev_var rfl) ev_c (rv_div ⟨by decide, by decide⟩)) ev_c (rv_mod (by decide))) ev_c rv_eqI)) (fun hb H15 e15 => ?_) (fun hb H15 e15 => ⟨rs, TS, Wa, rfl, e714.trans e15, e15 _ _ h14, hTS⟩)) ?_
        · refine q_asgI (ei_lcV (fun i => -i) (ev_var rfl) (sq_of (e15 _ _ h14)) (by omega) (fun _ => rfl) fun i H16 e16 => ev_un (ev_var rfl) ru_neg) fun r0 T0 H16 hr0 e16 h16 hT0 => ?_
          exact s_asg (ev_un (ev_var rfl) ru_neg) fun H17 e17 => ⟨r0, T0, -Wa, rfl, ((e714.trans e15).trans e16).trans e17, e17 _ _ h16, by omega⟩
        rintro σ' H15 ⟨ru, TU, Wh, rfl, e715, h15u, lTU⟩
        -- a race made by hand
        refine q_asgL (el_list (K := K) (ev_var rfl) (sq_of h15u)) fun rh H16 hrh e16 h16 => ?_
        refine q_asgR (er_make (ev_var rfl) h16 (ev_var rfl)) fun p q dx H17 hp hq hne e17 h17p h17q => ?_
        refine q_app (l := rh) (xs := iV TU) (e17 _ _ h16) (ev_var rfl) ev_c (by rw [List.length_map]; omega) fun H18 e18 => ?_
        have n1 : p ≠ rh := (ne_of_none h16 hp).symm
        have n2 : q ≠ rh := (ne_of_none h16 hq).symm
        have e19 : Ex H15 (upd H18 rh (.lst (iV TU ++ [.int 0]))) := Ex.mut ((e16.trans e17).trans e18) hrh
        have h19p : (upd H18 rh (.lst (iV TU ++ [.int 0]))) p = some (.ins CR dx (rf q Wh)) := (upd_ne n1).trans (e18 _ _ h17p)
        have h19q : (upd H18 rh (.lst (iV TU ++ [.int 0]))) q = some (.lst (iV TU)) := (upd_ne n2).trans (e18 _ _ h17q)
        have h19u := e19 _ _ h15u
        generalize upd H18 rh (.lst (iV TU ++ [.int 0])) = H19 at e19 h19p h19q h19u
        refine q_not (K := K) (et_is (et_or (a := false) (b := false) (et_test (ev_op (ev_fld (ev_var rfl) h19p TR.cl TR.nP (rf_parts q Wh)) (ev_var rfl) (rv_neL (sq_of h19q) (sq_of h19u)))) fun _ => et_is (et_test (ev_op (ev_fld (ev_var rfl) h19p TR.cl TR.nW (rf_whole q Wh)) (ev_var rfl) rv_neI)) (by rw [decide_eq_true rfl]; rfl)) rfl) fun H20 e20 => ?_
        have h20p := e20 _ _ h19p
        have h20q := e20 _ _ h19q
        have h20u := e20 _ _ h19u
        have e720 := (e715.trans e19).trans e20
        refine q_asg (v := .bl (if ap = true then decide (IsRace s x1 y1 (sts x1 y1) TU Wh) else true)) (ev_if (et_B (ev_var rfl)) (fun hb => ev_is (ev_pv (z := .bl (decide (IsRace s x1 y1 (sts x1 y1) TU Wh))) (ea_cons (ev_var rfl) (ea_cons (ev_var rfl) (ea_cons (ev_var rfl) (ea_cons (ev_var rfl) (ea_cons (ev_var rfl) ea_nil))))) fun H21 e21 => ⟨ru, TU, Wh, s, x1, y1, rfl, e21 _ _ h20u, by omega, s2, s26, by omega, by omega, rfl⟩) (by rw [if_pos hb]))
          (fun hb => ev_is ev_c (by rw [if_neg (by rw [hb]; exact Bool.false_ne_true)]))) fun H21 e21 => ?_
        have h21p := e21 _ _ h20p
        have h21q := e21 _ _ h20q
        refine s_not (K := K) (et_is (et_and (a := ap) (b := false) (et_B (ev_var rfl)) fun hb => et_is (et_not (et_B (ev_pv (z := .bl true) (ea_cons (ev_me (R := _) (z := .bl (decide (IsRace s x1 y1 (sts x1 y1) TU Wh))) (ev_var rfl) h21p (rf_no q Wh (by decide +kernel) (by decide +kernel)) (ea_cons (ev_var rfl) (ea_cons (ev_var rfl) (ea_cons (ev_var rfl) ea_nil))) fun H22 e22 => ⟨p, dx, q, TU, Wh, s, x1, y1, rfl, e22 _ _ h21p, e22 _ _ h21q, by omega, s2, s26, by omega, by omega, rfl⟩)
          (ea_cons (ev_var rfl) ea_nil)) fun _ _ => ⟨_, _, rfl, by rw [if_pos hb, decide_eq_true rfl]⟩))) rfl) (Bool.and_false _)) fun H22 e22 => ?_
        exact ⟨_, _, _, _, _, _, _, rfl, (e720.trans e21).trans e22⟩
    · rintro σ' H8 ⟨u7, u8, u9, u10, u11, u12, u13, rfl, e8⟩
      refine s_ret (v := .bl (true && true)) (ev_andV (ev_pv (ea_cons (ev_meW (R := _) (z := .bl true) (ew_makeL (T := [2, 0]) (el_lst (ea_cons ev_c (ea_cons ev_c ea_nil)) (by show 2 ≤ 100000; decide))) (by decide +kernel) (ea_cons ev_c (ea_cons (ev_is ev_c (by rw [S_a])) ea_nil)) fun p q dx H9 e9 h9p h9q => ⟨p, dx, q, [2, 0], 2, [97], rfl, h9p, h9q, by decide, by decide, by decide, by decide, by decide, by rw [decide_eq_true hand_wait]⟩)
        (ea_cons ev_c ea_nil)) fun _ _ => ⟨_, _, rfl, rfl⟩) fun _ => ev_pv (ea_cons (ev_meR (R := _) (z := .bl true) (er_makeL (T := [1, 2, 0]) (Wn := 2) (el_lst (ea_cons ev_c (ea_cons ev_c (ea_cons ev_c ea_nil))) (by show 3 ≤ 100000; decide)) ev_c) (by decide +kernel) (by decide +kernel) (ea_cons ev_c (ea_cons (ev_is ev_c (by rw [S_a])) (ea_cons (ev_is ev_c (by rw [S_b])) ea_nil))) fun p q dx H9 e9 h9p h9q => ⟨p, dx, q, [1, 2, 0], 2, 2, [97], [98], rfl, h9p, h9q, by decide, by decide, by decide, by decide, by decide, by rw [decide_eq_true hand_race]⟩)
        (ea_cons ev_c ea_nil)) fun _ _ => ⟨_, _, rfl, rfl⟩) fun H9 e9 => k H9
end
end Fw

set_option Elab.async false
set_option linter.all false
set_option maxRecDepth 100000
set_option maxHeartbeats 4000000
namespace Fw
open PySem PySem.Spec PyProof.Rows L2 Evl
/-! ### what the top has written, the head -/
theorem all_mk {l : PySem.W.OpenLaw} {w : World} {K : PySem.W.Frag} {h : Heap} {mg : Str → Option Value} {fa : Addr} (X : K.In h) (G : h.Ns mainGlobals mg) (hfa : mg "law" = some (.ref fa))
    {f0 f1 f2 f3 f4 f5 f6 f7 f8 f9 f10 f11 f12 f13 f14 f15 f16 f17 f18 f19 f20 f21 f22 f23 CWait CRace : Addr}
    {od0 an0 : Option Addr} {sl0 : Array (Option Value)} {oc0 kV0 dc0 pm0 cd0 ct0 : Value}
    {od1 an1 : Option Addr} {sl1 : Array (Option Value)} {oc1 kV1 dc1 pm1 cd1 ct1 : Value}
    {od2 an2 : Option Addr} {sl2 : Array (Option Value)} {oc2 kV2 dc2 pm2 cd2 ct2 : Value}
    {od3 an3 : Option Addr} {sl3 : Array (Option Value)} {oc3 kV3 dc3 pm3 cd3 ct3 : Value}
    {od4 an4 : Option Addr} {sl4 : Array (Option Value)} {oc4 kV4 dc4 pm4 cd4 ct4 : Value}
    {od5 an5 : Option Addr} {sl5 : Array (Option Value)} {oc5 kV5 dc5 pm5 cd5 ct5 : Value}
    {od6 an6 : Option Addr} {sl6 : Array (Option Value)} {oc6 kV6 dc6 pm6 cd6 ct6 : Value}
    {od7 an7 : Option Addr} {sl7 : Array (Option Value)} {oc7 kV7 dc7 pm7 cd7 ct7 : Value}
    {od8 an8 : Option Addr} {sl8 : Array (Option Value)} {oc8 kV8 dc8 pm8 cd8 ct8 : Value}
    {od9 an9 : Option Addr} {sl9 : Array (Option Value)} {oc9 kV9 dc9 pm9 cd9 ct9 : Value}
    {od10 an10 : Option Addr} {sl10 : Array (Option Value)} {oc10 kV10 dc10 pm10 cd10 ct10 : Value}
    {od11 an11 : Option Addr} {sl11 : Array (Option Value)} {oc11 kV11 dc11 pm11 cd11 ct11 : Value}
    {od12 an12 : Option Addr} {sl12 : Array (Option Value)} {oc12 kV12 dc12 pm12 cd12 ct12 : Value}
    {od13 an13 : Option Addr} {sl13 : Array (Option Value)} {oc13 kV13 dc13 pm13 cd13 ct13 : Value}
    {od14 an14 : Option Addr} {sl14 : Array (Option Value)} {oc14 kV14 dc14 pm14 cd14 ct14 : Value}
    {od15 an15 : Option Addr} {sl15 : Array (Option Value)} {oc15 kV15 dc15 pm15 cd15 ct15 : Value}
    {od16 an16 : Option Addr} {sl16 : Array (Option Value)} {oc16 kV16 dc16 pm16 cd16 ct16 : Value}
    {od17 an17 : Option Addr} {sl17 : Array (Option Value)} {oc17 kV17 dc17 pm17 cd17 ct17 : Value}
    {od18 an18 : Option Addr} {sl18 : Array (Option Value)} {oc18 kV18 dc18 pm18 cd18 ct18 : Value}
    {od19 an19 : Option Addr} {sl19 : Array (Option Value)} {oc19 kV19 dc19 pm19 cd19 ct19 : Value}
    {od20 an20 : Option Addr} {sl20 : Array (Option Value)} {oc20 kV20 dc20 pm20 cd20 ct20 : Value}
    {od21 an21 : Option Addr} {sl21 : Array (Option Value)} {oc21 kV21 dc21 pm21 cd21 ct21 : Value}
    {od22 an22 : Option Addr} {sl22 : Array (Option Value)} {oc22 kV22 dc22 pm22 cd22 ct22 : Value}
    {od23 an23 : Option Addr} {sl23 : Array (Option Value)} {oc23 kV23 dc23 pm23 cd23 ct23 : Value}
    {zL : Str} {tL : Tok} (aL : PySem.W.nsIn K mainGlobals "LETTERS" = some (some (.str zL tL))) (eL : zL = S (lets 26))
    (a0 : PySem.W.nsIn K mainGlobals "is_throws" = some (some (.ref f0)))
    (l0 : K.lookup f0 = some ⟨oc0, od0, .func (PySem.W.fnOf "is_throws" "is_throws" (defArgs sIsThrows) (defBody sIsThrows) (defScope sIsThrows) .none kV0 dc0 pm0 an0 cd0 ct0), sl0⟩) (c0 : PySem.W.codeIn K cd0 "is_throws" = true) (k0 : PySem.W.keepIn K (.ref f0) = true)
    (a1 : PySem.W.nsIn K mainGlobals "asked_word" = some (some (.ref f1)))
    (l1 : K.lookup f1 = some ⟨oc1, od1, .func (PySem.W.fnOf "asked_word" "asked_word" (defArgs sAskedWord) (defBody sAskedWord) (defScope sAskedWord) .none kV1 dc1 pm1 an1 cd1 ct1), sl1⟩) (c1 : PySem.W.codeIn K cd1 "asked_word" = true) (k1 : PySem.W.keepIn K (.ref f1) = true)
    (a2 : PySem.W.nsIn K mainGlobals "backs" = some (some (.ref f2)))
    (l2 : K.lookup f2 = some ⟨oc2, od2, .func (PySem.W.fnOf "backs" "backs" (defArgs sBacks) (defBody sBacks) (defScope sBacks) .none kV2 dc2 pm2 an2 cd2 ct2), sl2⟩) (c2 : PySem.W.codeIn K cd2 "backs" = true) (k2 : PySem.W.keepIn K (.ref f2) = true)
    (a3 : PySem.W.nsIn K mainGlobals "next_count" = some (some (.ref f3)))
    (l3 : K.lookup f3 = some ⟨oc3, od3, .func (PySem.W.fnOf "next_count" "next_count" (defArgs sNext) (defBody sNext) (defScope sNext) .none kV3 dc3 pm3 an3 cd3 ct3), sl3⟩) (c3 : PySem.W.codeIn K cd3 "next_count" = true) (k3 : PySem.W.keepIn K (.ref f3) = true)
    (a4 : PySem.W.nsIn K mainGlobals "is_number" = some (some (.ref f4)))
    (l4 : K.lookup f4 = some ⟨oc4, od4, .func (PySem.W.fnOf "is_number" "is_number" (defArgs sIsNumber) (defBody sIsNumber) (defScope sIsNumber) .none kV4 dc4 pm4 an4 cd4 ct4), sl4⟩) (c4 : PySem.W.codeIn K cd4 "is_number" = true) (k4 : PySem.W.keepIn K (.ref f4) = true)
    (a5 : PySem.W.nsIn K mainGlobals "asked_sides" = some (some (.ref f5)))
    (l5 : K.lookup f5 = some ⟨oc5, od5, .func (PySem.W.fnOf "asked_sides" "asked_sides" (defArgs sAskedSides) (defBody sAskedSides) (defScope sAskedSides) .none kV5 dc5 pm5 an5 cd5 ct5), sl5⟩) (c5 : PySem.W.codeIn K cd5 "asked_sides" = true) (k5 : PySem.W.keepIn K (.ref f5) = true)
    (a6 : PySem.W.nsIn K mainGlobals "worths" = some (some (.ref f6)))
    (l6 : K.lookup f6 = some ⟨oc6, od6, .func (PySem.W.fnOf "worths" "worths" (defArgs sWorths) (defBody sWorths) (defScope sWorths) .none kV6 dc6 pm6 an6 cd6 ct6), sl6⟩) (c6 : PySem.W.codeIn K cd6 "worths" = true) (k6 : PySem.W.keepIn K (.ref f6) = true)
    (a7 : PySem.W.findIn K (.ref CWait) "__init__" = some (some (.ref f7))) (i7 : PySem.W.isFn K (.ref f7) = true)
    (l7 : K.lookup f7 = some ⟨oc7, od7, .func (PySem.W.fnOf "__init__" "Wait.__init__" (defArgs sWaitInit) (defBody sWaitInit) (defScope sWaitInit) .none kV7 dc7 pm7 an7 cd7 ct7), sl7⟩) (c7 : PySem.W.codeIn K cd7 "Wait.__init__" = true) (k7 : PySem.W.keepIn K (.ref f7) = true)
    (a8 : PySem.W.findIn K (.ref CWait) "shows" = some (some (.ref f8))) (i8 : PySem.W.isFn K (.ref f8) = true)
    (l8 : K.lookup f8 = some ⟨oc8, od8, .func (PySem.W.fnOf "shows" "Wait.shows" (defArgs sWaitShows) (defBody sWaitShows) (defScope sWaitShows) .none kV8 dc8 pm8 an8 cd8 ct8), sl8⟩) (c8 : PySem.W.codeIn K cd8 "Wait.shows" = true) (k8 : PySem.W.keepIn K (.ref f8) = true)
    (a9 : PySem.W.nsIn K mainGlobals "waits" = some (some (.ref f9)))
    (l9 : K.lookup f9 = some ⟨oc9, od9, .func (PySem.W.fnOf "waits" "waits" (defArgs sWaits) (defBody sWaits) (defScope sWaits) .none kV9 dc9 pm9 an9 cd9 ct9), sl9⟩) (c9 : PySem.W.codeIn K cd9 "waits" = true) (k9 : PySem.W.keepIn K (.ref f9) = true)
    (a10 : PySem.W.nsIn K mainGlobals "states_of" = some (some (.ref f10)))
    (l10 : K.lookup f10 = some ⟨oc10, od10, .func (PySem.W.fnOf "states_of" "states_of" (defArgs sStatesOf) (defBody sStatesOf) (defScope sStatesOf) .none kV10 dc10 pm10 an10 cd10 ct10), sl10⟩) (c10 : PySem.W.codeIn K cd10 "states_of" = true) (k10 : PySem.W.keepIn K (.ref f10) = true)
    (a11 : PySem.W.findIn K (.ref CRace) "__init__" = some (some (.ref f11))) (i11 : PySem.W.isFn K (.ref f11) = true)
    (l11 : K.lookup f11 = some ⟨oc11, od11, .func (PySem.W.fnOf "__init__" "Race.__init__" (defArgs sRaceInit) (defBody sRaceInit) (defScope sRaceInit) .none kV11 dc11 pm11 an11 cd11 ct11), sl11⟩) (c11 : PySem.W.codeIn K cd11 "Race.__init__" = true) (k11 : PySem.W.keepIn K (.ref f11) = true)
    (a12 : PySem.W.nsIn K mainGlobals "counts_along" = some (some (.ref f12)))
    (l12 : K.lookup f12 = some ⟨oc12, od12, .func (PySem.W.fnOf "counts_along" "counts_along" (defArgs sCounts) (defBody sCounts) (defScope sCounts) .none kV12 dc12 pm12 an12 cd12 ct12), sl12⟩) (c12 : PySem.W.codeIn K cd12 "counts_along" = true) (k12 : PySem.W.keepIn K (.ref f12) = true)
    (a13 : PySem.W.nsIn K mainGlobals "asked_pair" = some (some (.ref f13)))
    (l13 : K.lookup f13 = some ⟨oc13, od13, .func (PySem.W.fnOf "asked_pair" "asked_pair" (defArgs sAskedPair) (defBody sAskedPair) (defScope sAskedPair) .none kV13 dc13 pm13 an13 cd13 ct13), sl13⟩) (c13 : PySem.W.codeIn K cd13 "asked_pair" = true) (k13 : PySem.W.keepIn K (.ref f13) = true)
    (a14 : PySem.W.nsIn K mainGlobals "race" = some (some (.ref f14)))
    (l14 : K.lookup f14 = some ⟨oc14, od14, .func (PySem.W.fnOf "race" "race" (defArgs sRace) (defBody sRace) (defScope sRace) .none kV14 dc14 pm14 an14 cd14 ct14), sl14⟩) (c14 : PySem.W.codeIn K cd14 "race" = true) (k14 : PySem.W.keepIn K (.ref f14) = true)
    (a15 : PySem.W.nsIn K mainGlobals "led" = some (some (.ref f15)))
    (l15 : K.lookup f15 = some ⟨oc15, od15, .func (PySem.W.fnOf "led" "led" (defArgs sLed) (defBody sLed) (defScope sLed) .none kV15 dc15 pm15 an15 cd15 ct15), sl15⟩) (c15 : PySem.W.codeIn K cd15 "led" = true) (k15 : PySem.W.keepIn K (.ref f15) = true)
    (a16 : PySem.W.findIn K (.ref CRace) "shows" = some (some (.ref f16))) (i16 : PySem.W.isFn K (.ref f16) = true)
    (l16 : K.lookup f16 = some ⟨oc16, od16, .func (PySem.W.fnOf "shows" "Race.shows" (defArgs sRaceShows) (defBody sRaceShows) (defScope sRaceShows) .none kV16 dc16 pm16 an16 cd16 ct16), sl16⟩) (c16 : PySem.W.codeIn K cd16 "Race.shows" = true) (k16 : PySem.W.keepIn K (.ref f16) = true)
    (a17 : PySem.W.nsIn K mainGlobals "_law_words" = some (some (.ref f17)))
    (l17 : K.lookup f17 = some ⟨oc17, od17, .func (PySem.W.fnOf "_law_words" "_law_words" (defArgs sLawWords) (defBody sLawWords) (defScope sLawWords) .none kV17 dc17 pm17 an17 cd17 ct17), sl17⟩) (c17 : PySem.W.codeIn K cd17 "_law_words" = true) (k17 : PySem.W.keepIn K (.ref f17) = true)
    (a18 : PySem.W.nsIn K mainGlobals "_law_longest" = some (some (.ref f18)))
    (l18 : K.lookup f18 = some ⟨oc18, od18, .func (PySem.W.fnOf "_law_longest" "_law_longest" (defArgs sLongest) (defBody sLongest) (defScope sLongest) .none kV18 dc18 pm18 an18 cd18 ct18), sl18⟩) (c18 : PySem.W.codeIn K cd18 "_law_longest" = true) (k18 : PySem.W.keepIn K (.ref f18) = true)
    (a19 : PySem.W.nsIn K mainGlobals "_law_table" = some (some (.ref f19)))
    (l19 : K.lookup f19 = some ⟨oc19, od19, .func (PySem.W.fnOf "_law_table" "_law_table" (defArgs sTable) (defBody sTable) (defScope sTable) .none kV19 dc19 pm19 an19 cd19 ct19), sl19⟩) (c19 : PySem.W.codeIn K cd19 "_law_table" = true) (k19 : PySem.W.keepIn K (.ref f19) = true)
    (a20 : PySem.W.nsIn K mainGlobals "_law_says" = some (some (.ref f20)))
    (l20 : K.lookup f20 = some ⟨oc20, od20, .func (PySem.W.fnOf "_law_says" "_law_says" (defArgs sSays) (defBody sSays) (defScope sSays) .none kV20 dc20 pm20 an20 cd20 ct20), sl20⟩) (c20 : PySem.W.codeIn K cd20 "_law_says" = true) (k20 : PySem.W.keepIn K (.ref f20) = true)
    (a21 : PySem.W.nsIn K mainGlobals "_law_race" = some (some (.ref f21)))
    (l21 : K.lookup f21 = some ⟨oc21, od21, .func (PySem.W.fnOf "_law_race" "_law_race" (defArgs sLawRace) (defBody sLawRace) (defScope sLawRace) .none kV21 dc21 pm21 an21 cd21 ct21), sl21⟩) (c21 : PySem.W.codeIn K cd21 "_law_race" = true) (k21 : PySem.W.keepIn K (.ref f21) = true)
    (a22 : PySem.W.nsIn K mainGlobals "_law_bent" = some (some (.ref f22)))
    (l22 : K.lookup f22 = some ⟨oc22, od22, .func (PySem.W.fnOf "_law_bent" "_law_bent" (defArgs sBent) (defBody sBent) (defScope sBent) .none kV22 dc22 pm22 an22 cd22 ct22), sl22⟩) (c22 : PySem.W.codeIn K cd22 "_law_bent" = true) (k22 : PySem.W.keepIn K (.ref f22) = true)
    (a23 : PySem.W.nsIn K mainGlobals "law" = some (some (.ref f23)))
    (l23 : K.lookup f23 = some ⟨oc23, od23, .func (PySem.W.fnOf "law" "law" (defArgs sLaw) (defBody sLaw) (defScope sLaw) .none kV23 dc23 pm23 an23 cd23 ct23), sl23⟩) (c23 : PySem.W.codeIn K cd23 "law" = true) (k23 : PySem.W.keepIn K (.ref f23) = true)
    (n_len : PySem.W.nsIn K mainGlobals "len" = some none)
    (n_range : PySem.W.nsIn K mainGlobals "range" = some none)
    (n_isinstance : PySem.W.nsIn K mainGlobals "isinstance" = some none)
    (n_str : PySem.W.nsIn K mainGlobals "str" = some none)
    (n_int : PySem.W.nsIn K mainGlobals "int" = some none)
    (n_bool : PySem.W.nsIn K mainGlobals "bool" = some none)
    (n_list : PySem.W.nsIn K mainGlobals "list" = some none)
    (n_sum : PySem.W.nsIn K mainGlobals "sum" = some none)
    (n_min : PySem.W.nsIn K mainGlobals "min" = some none)
    (n_max : PySem.W.nsIn K mainGlobals "max" = some none)
    (n_all : PySem.W.nsIn K mainGlobals "all" = some none)
    (n_any : PySem.W.nsIn K mainGlobals "any" = some none)
    (n_sorted : PySem.W.nsIn K mainGlobals "sorted" = some none)
    (n_enumerate : PySem.W.nsIn K mainGlobals "enumerate" = some none)
    (n_zip : PySem.W.nsIn K mainGlobals "zip" = some none)
    (n_set : PySem.W.nsIn K mainGlobals "set" = some none)
    (g_Wait : PySem.W.nsIn K mainGlobals "Wait" = some (some (.ref CWait)))
    (pg_Wait : PySem.W.plainGet K CWait Str.empty = true)
    (hd_Wait : PySem.W.hasDictIn K CWait = true)
    (po_Wait : PySem.W.plainOver K CWait = true)
    (sa_Wait : PySem.W.findIn K (.ref CWait) "__setattr__" = some (some (.builtin "object.__setattr__")))
    (mk_Wait : PySem.W.makesIn K CWait = true)
    (kc_Wait : PySem.W.keepIn K (.ref CWait) = true)
    (na_Wait_table : PySem.W.findIn K (.ref CWait) "table" = some none)
    (g_Race : PySem.W.nsIn K mainGlobals "Race" = some (some (.ref CRace)))
    (pg_Race : PySem.W.plainGet K CRace Str.empty = true)
    (hd_Race : PySem.W.hasDictIn K CRace = true)
    (po_Race : PySem.W.plainOver K CRace = true)
    (sa_Race : PySem.W.findIn K (.ref CRace) "__setattr__" = some (some (.builtin "object.__setattr__")))
    (mk_Race : PySem.W.makesIn K CRace = true)
    (kc_Race : PySem.W.keepIn K (.ref CRace) = true)
    (na_Race_parts : PySem.W.findIn K (.ref CRace) "parts" = some none)
    (na_Race_whole : PySem.W.findIn K (.ref CRace) "whole" = some none)
    : ∃ fd : FuncData, (∀ (s : Shared) (v : Value), BindsTo s fd ⟨[v], []⟩ [("_law_script", v)]) ∧ ∀ base : Heap, K.In base → base.Ns mainGlobals mg → FnOk l.prog w K mg base CX0 4 fa fd ["_law_script"] (spLaw K) := by
  have e := hfa.symm.trans (PySem.W.mg_of X G a23)
  cases e
  have T : Tx K mg := { n_len := PySem.W.mg_none_of X G n_len, n_range := PySem.W.mg_none_of X G n_range, n_isinstance := PySem.W.mg_none_of X G n_isinstance, n_str := PySem.W.mg_none_of X G n_str, n_int := PySem.W.mg_none_of X G n_int, n_bool := PySem.W.mg_none_of X G n_bool, n_list := PySem.W.mg_none_of X G n_list, n_sum := PySem.W.mg_none_of X G n_sum, n_min := PySem.W.mg_none_of X G n_min, n_max := PySem.W.mg_none_of X G n_max, n_all := PySem.W.mg_none_of X G n_all, n_any := PySem.W.mg_none_of X G n_any, n_sorted := PySem.W.mg_none_of X G n_sorted, n_enumerate := PySem.W.mg_none_of X G n_enumerate, n_zip := PySem.W.mg_none_of X G n_zip, n_set := PySem.W.mg_none_of X G n_set, g_LETTERS := ⟨_, PySem.W.mg_of X G aL, by subst eL; exact ⟨_, rfl⟩⟩ }
  have cls_Wait : Cls K CWait := ⟨pg_Wait, hd_Wait, po_Wait, sa_Wait⟩
  have TW : TxW K mg CWait := ⟨cls_Wait, na_Wait_table⟩
  have cls_Race : Cls K CRace := ⟨pg_Race, hd_Race, po_Race, sa_Race⟩
  have TR : TxR K mg CRace := ⟨cls_Race, na_Race_parts, na_Race_whole⟩
  have F_is_throws := fun_mk (st := sIsThrows) l0 c0 k0
  have b_is_throws := F_is_throws.binds (ps := ["thing", "sides"]) fun _ _ _ _ _ _ us hl => match us, hl with | [_, _], _ => rfl
  have F_asked_word := fun_mk (st := sAskedWord) l1 c1 k1
  have b_asked_word := F_asked_word.binds (ps := ["word", "sides"]) fun _ _ _ _ _ _ us hl => match us, hl with | [_, _], _ => rfl
  have F_backs := fun_mk (st := sBacks) l2 c2 k2
  have b_backs := F_backs.binds (ps := ["word"]) fun _ _ _ _ _ _ us hl => match us, hl with | [_], _ => rfl
  have F_next_count := fun_mk (st := sNext) l3 c3 k3
  have b_next_count := F_next_count.binds (ps := ["word", "told", "many", "letter"]) fun _ _ _ _ _ _ us hl => match us, hl with | [_, _, _, _], _ => rfl
  have F_is_number := fun_mk (st := sIsNumber) l4 c4 k4
  have b_is_number := F_is_number.binds (ps := ["thing", "least", "most"]) fun _ _ _ _ _ _ us hl => match us, hl with | [_, _, _], _ => rfl
  have F_asked_sides := fun_mk (st := sAskedSides) l5 c5 k5
  have b_asked_sides := F_asked_sides.binds (ps := ["sides"]) fun _ _ _ _ _ _ us hl => match us, hl with | [_], _ => rfl
  have F_worths := fun_mk (st := sWorths) l6 c6 k6
  have b_worths := F_worths.binds (ps := ["sides", "word"]) fun _ _ _ _ _ _ us hl => match us, hl with | [_, _], _ => rfl
  have F_Wait___init__ := fun_mk (st := sWaitInit) l7 c7 k7
  have b_Wait___init__ := F_Wait___init__.binds (ps := ["self", "table"]) fun _ _ _ _ _ _ us hl => match us, hl with | [_, _], _ => rfl
  have F_Wait_shows := fun_mk (st := sWaitShows) l8 c8 k8
  have b_Wait_shows := F_Wait_shows.binds (ps := ["self", "sides", "word"]) fun _ _ _ _ _ _ us hl => match us, hl with | [_, _, _], _ => rfl
  have F_waits := fun_mk (st := sWaits) l9 c9 k9
  have b_waits := F_waits.binds (ps := ["sides", "word"]) fun _ _ _ _ _ _ us hl => match us, hl with | [_, _], _ => rfl
  have F_states_of := fun_mk (st := sStatesOf) l10 c10 k10
  have b_states_of := F_states_of.binds (ps := ["one", "other"]) fun _ _ _ _ _ _ us hl => match us, hl with | [_, _], _ => rfl
  have F_Race___init__ := fun_mk (st := sRaceInit) l11 c11 k11
  have b_Race___init__ := F_Race___init__.binds (ps := ["self", "parts", "whole"]) fun _ _ _ _ _ _ us hl => match us, hl with | [_, _, _], _ => rfl
  have F_counts_along := fun_mk (st := sCounts) l12 c12 k12
  have b_counts_along := F_counts_along.binds (ps := ["word", "throws"]) fun _ _ _ _ _ _ us hl => match us, hl with | [_, _], _ => rfl
  have F_asked_pair := fun_mk (st := sAskedPair) l13 c13 k13
  have b_asked_pair := F_asked_pair.binds (ps := ["one", "other"]) fun _ _ _ _ _ _ us hl => match us, hl with | [_, _], _ => rfl
  have F_race := fun_mk (st := sRace) l14 c14 k14
  have b_race := F_race.binds (ps := ["sides", "one", "other"]) fun _ _ _ _ _ _ us hl => match us, hl with | [_, _, _], _ => rfl
  have F_led := fun_mk (st := sLed) l15 c15 k15
  have b_led := F_led.binds (ps := ["states", "state", "letter"]) fun _ _ _ _ _ _ us hl => match us, hl with | [_, _, _], _ => rfl
  have F_Race_shows := fun_mk (st := sRaceShows) l16 c16 k16
  have b_Race_shows := F_Race_shows.binds (ps := ["self", "sides", "one", "other"]) fun _ _ _ _ _ _ us hl => match us, hl with | [_, _, _, _], _ => rfl
  have F__law_words := fun_mk (st := sLawWords) l17 c17 k17
  have b__law_words := F__law_words.binds (ps := ["_law_script"]) fun _ _ _ _ _ _ us hl => match us, hl with | [_], _ => rfl
  have F__law_longest := fun_mk (st := sLongest) l18 c18 k18
  have b__law_longest := F__law_longest.binds (ps := ["_law_word", "_law_throws"]) fun _ _ _ _ _ _ us hl => match us, hl with | [_, _], _ => rfl
  have F__law_table := fun_mk (st := sTable) l19 c19 k19
  have b__law_table := F__law_table.binds (ps := ["_law_sides", "_law_word", "_law_table_here"]) fun _ _ _ _ _ _ us hl => match us, hl with | [_, _, _], _ => rfl
  have F__law_says := fun_mk (st := sSays) l20 c20 k20
  have b__law_says := F__law_says.binds (ps := ["_law_said", "_law_due"]) fun _ _ _ _ _ _ us hl => match us, hl with | [_, _], _ => rfl
  have F__law_race := fun_mk (st := sLawRace) l21 c21 k21
  have b__law_race := F__law_race.binds (ps := ["_law_sides", "_law_one", "_law_other", "_law_parts", "_law_whole"]) fun _ _ _ _ _ _ us hl => match us, hl with | [_, _, _, _, _], _ => rfl
  have F__law_bent := fun_mk (st := sBent) l22 c22 k22
  have b__law_bent := F__law_bent.binds (ps := ["_law_some", "_law_cell"]) fun _ _ _ _ _ _ us hl => match us, hl with | [_, _], _ => rfl
  have F_law := fun_mk (st := sLaw) l23 c23 k23
  refine ⟨PySem.W.fnOf "law" "law" (defArgs sLaw) (defBody sLaw) (defScope sLaw) .none kV23 dc23 pm23 an23 cd23 ct23, fun s v => .of_eq rfl, fun base _ _ => ?_⟩
  have C_is_throws : Ca l.prog w K mg base 1 "is_throws" spIsThrows := ⟨_, _, _, ok_is_throws T F_is_throws, PySem.W.mg_of X G a0, k0, b_is_throws⟩
  have C_asked_word : Ca l.prog w K mg base 2 "asked_word" spAskedWord := ⟨_, _, _, ok_asked_word T F_asked_word C_is_throws, PySem.W.mg_of X G a1, k1, b_asked_word⟩
  have C_backs : Ca l.prog w K mg base 1 "backs" spBacks := ⟨_, _, _, ok_backs T F_backs, PySem.W.mg_of X G a2, k2, b_backs⟩
  have C_next_count : Ca l.prog w K mg base 1 "next_count" (spNext K) := ⟨_, _, _, ok_next T F_next_count, PySem.W.mg_of X G a3, k3, b_next_count⟩
  have C_is_number : Ca l.prog w K mg base 1 "is_number" spIsNumber := ⟨_, _, _, ok_is_number T F_is_number, PySem.W.mg_of X G a4, k4, b_is_number⟩
  have C_asked_sides : Ca l.prog w K mg base 2 "asked_sides" spAskedSides := ⟨_, _, _, ok_asked_sides T F_asked_sides C_is_number, PySem.W.mg_of X G a5, k5, b_asked_sides⟩
  have C_worths : Ca l.prog w K mg base 2 "worths" spWorths := ⟨_, _, _, ok_worths T F_worths C_backs, PySem.W.mg_of X G a6, k6, b_worths⟩
  have N_Wait : Ma l.prog w K mg base 1 "Wait" CWait (spWaitInit CWait) := ⟨_, _, _, ⟨mk_Wait, a7, i7, kc_Wait⟩, ok_wait_init T TW F_Wait___init__, PySem.W.mg_of X G g_Wait, b_Wait___init__⟩
  have M_Wait_shows : Me l.prog w K mg base 2 CWait "shows" (spWaitShows CWait) := ⟨_, _, _, cls_Wait, ⟨a8, i8, k8⟩, ok_wait_shows T TW F_Wait_shows C_backs C_next_count, b_Wait_shows⟩
  have C_waits : Ca l.prog w K mg base 3 "waits" (spWaits CWait) := ⟨_, _, _, ok_waits T TW F_waits C_asked_sides C_asked_word C_worths N_Wait, PySem.W.mg_of X G a9, k9, b_waits⟩
  have C_states_of : Ca l.prog w K mg base 1 "states_of" spStatesOf := ⟨_, _, _, ok_states_of T F_states_of, PySem.W.mg_of X G a10, k10, b_states_of⟩
  have N_Race : Ma l.prog w K mg base 1 "Race" CRace (spRaceInit CRace) := ⟨_, _, _, ⟨mk_Race, a11, i11, kc_Race⟩, ok_race_init T TR F_Race___init__, PySem.W.mg_of X G g_Race, b_Race___init__⟩
  have C_counts_along : Ca l.prog w K mg base 2 "counts_along" spCounts := ⟨_, _, _, ok_counts T F_counts_along C_backs C_next_count, PySem.W.mg_of X G a12, k12, b_counts_along⟩
  have C_asked_pair : Ca l.prog w K mg base 1 "asked_pair" spAskedPair := ⟨_, _, _, ok_asked_pair T F_asked_pair, PySem.W.mg_of X G a13, k13, b_asked_pair⟩
  have C_race : Ca l.prog w K mg base 3 "race" (spRace CRace) := ⟨_, _, _, ok_race T TR F_race C_asked_sides C_asked_word C_asked_pair C_worths C_counts_along C_states_of N_Race, PySem.W.mg_of X G a14, k14, b_race⟩
  have C_led : Ca l.prog w K mg base 1 "led" spLed := ⟨_, _, _, ok_led T F_led, PySem.W.mg_of X G a15, k15, b_led⟩
  have M_Race_shows : Me l.prog w K mg base 2 CRace "shows" (spRaceShows CRace) := ⟨_, _, _, cls_Race, ⟨a16, i16, k16⟩, ok_race_shows T TR F_Race_shows C_states_of C_led, b_Race_shows⟩
  have C__law_words : Ca l.prog w K mg base 1 "_law_words" (spLawWords K) := ⟨_, _, _, ok_law_words T F__law_words, PySem.W.mg_of X G a17, k17, b__law_words⟩
  have C__law_longest : Ca l.prog w K mg base 1 "_law_longest" spLongest := ⟨_, _, _, ok_longest T F__law_longest, PySem.W.mg_of X G a18, k18, b__law_longest⟩
  have C__law_table : Ca l.prog w K mg base 2 "_law_table" spTable := ⟨_, _, _, ok_table T F__law_table C__law_longest, PySem.W.mg_of X G a19, k19, b__law_table⟩
  have C__law_says : Ca l.prog w K mg base 1 "_law_says" spSays := ⟨_, _, _, ok_says T F__law_says, PySem.W.mg_of X G a20, k20, b__law_says⟩
  have C__law_race : Ca l.prog w K mg base 2 "_law_race" spLawRace := ⟨_, _, _, ok_law_race T F__law_race, PySem.W.mg_of X G a21, k21, b__law_race⟩
  have C__law_bent : Ca l.prog w K mg base 1 "_law_bent" spBent := ⟨_, _, _, ok_bent T F__law_bent, PySem.W.mg_of X G a22, k22, b__law_bent⟩
  exact ok_law T TW TR F_law C__law_words C__law_says C__law_table C__law_race C__law_bent C_waits C_race N_Wait N_Race M_Wait_shows M_Race_shows
theorem walk {l : PySem.W.OpenLaw} {q : Program} {loose : List Str} {XP : (Str → Option Value) → Heap → Prop} {YP : World → Heap → Prop} {d : DefRec} {K : Params → PySem.W.Frag} (hn : l.most = some 63) (hdf : d.params.defaults = [])
    (hY : ∀ (w : World) (h : Heap), YP w h → (K w.params).In h)
    (F : ∀ (w : World) (mg : Str → Option Value) (fa : Addr) (h : Heap), (K w.params).In h → h.Ns mainGlobals mg → mg d.name = some (.ref fa) →
      ∃ fd : FuncData, (∀ (s : Shared) (u : Value), BindsTo s fd ⟨[u], []⟩ [("_law_script", u)]) ∧ ∀ base : Heap, (K w.params).In base → base.Ns mainGlobals mg → FnOk l.prog w (K w.params) mg base CX0 4 fa fd ["_law_script"] (spLaw (K w.params))) :
    PySem.W.WalkO q loose XP YP l.row.toRowW d [] (fun f vs => PySem.call f vs) :=
  L2.walk_of (n := 63) (k := 4) (x := "_law_script") (CX := fun _ => CX0) (sp := fun w => spLaw (K w.params)) hn (by decide) hdf ⟨rfl, by decide, by decide⟩ hY F (fun _ _ a ns hl _ hS => ⟨a, ns, rfl, hS, hl, fun _ => rfl⟩) fun _ _ _ _ _ z => z
end Fw

open PySem PySem.W PyProof.Rows in
set_option maxRecDepth 100000 in
set_option maxHeartbeats 0 in
theorem PySem.Challenge.cw_firstword_k06_answers_by_hand_holds : PySem.Challenge.rw_firstword_k06_answers_by_hand.Holds := by
  w_on; o_law; k_head; (case hw => w_witness2)
  k_fill
  refine Fw.walk (l := PySem.Challenge.rw_firstword_k06_answers_by_hand) rfl rfl (fun w h Y => PySem.W.kIn_of Y) ?F
  case F =>
    intro w mg fa h KX G hmg
    refine' Fw.all_mk KX G hmg ?aL ?eL ?a0 ?l0 ?c0 ?k0 ?a1 ?l1 ?c1 ?k1 ?a2 ?l2 ?c2 ?k2 ?a3 ?l3 ?c3 ?k3 ?a4 ?l4 ?c4 ?k4 ?a5 ?l5 ?c5 ?k5 ?a6 ?l6 ?c6 ?k6 ?a7 ?i7 ?l7 ?c7 ?k7 ?a8 ?i8 ?l8 ?c8 ?k8 ?a9 ?l9 ?c9 ?k9 ?a10 ?l10 ?c10 ?k10 ?a11 ?i11 ?l11 ?c11 ?k11 ?a12 ?l12 ?c12 ?k12 ?a13 ?l13 ?c13 ?k13 ?a14 ?l14 ?c14 ?k14 ?a15 ?l15 ?c15 ?k15 ?a16 ?i16 ?l16 ?c16 ?k16 ?a17 ?l17 ?c17 ?k17 ?a18 ?l18 ?c18 ?k18 ?a19 ?l19 ?c19 ?k19 ?a20 ?l20 ?c20 ?k20 ?a21 ?l21 ?c21 ?k21 ?a22 ?l22 ?c22 ?k22 ?a23 ?l23 ?c23 ?k23 ?n_len ?n_range ?n_isinstance ?n_str ?n_int ?n_bool ?n_list ?n_sum ?n_min ?n_max ?n_all ?n_any ?n_sorted ?n_enumerate ?n_zip ?n_set ?g_Wait ?pg_Wait ?hd_Wait ?po_Wait ?sa_Wait ?mk_Wait ?kc_Wait ?na_Wait_table ?g_Race ?pg_Race ?hd_Race ?po_Race ?sa_Race ?mk_Race ?kc_Race ?na_Race_parts ?na_Race_whole
    (case g_Wait => k_is)
    (case pg_Wait => k_is)
    (case hd_Wait => k_is)
    (case po_Wait => k_is)
    (case sa_Wait => k_is)
    (case mk_Wait => k_is)
    (case kc_Wait => k_is)
    (case na_Wait_table => k_is)
    (case g_Race => k_is)
    (case pg_Race => k_is)
    (case hd_Race => k_is)
    (case po_Race => k_is)
    (case sa_Race => k_is)
    (case mk_Race => k_is)
    (case kc_Race => k_is)
    (case na_Race_parts => k_is)
    (case na_Race_whole => k_is)
    (case aL => k_is)
    (case eL => decide +kernel)
    (case a0 => k_is)
    (case l0 => k_is)
    (case c0 => k_is)
    (case k0 => k_is)
    (case a1 => k_is)
    (case l1 => k_is)
    (case c1 => k_is)
    (case k1 => k_is)
    (case a2 => k_is)
    (case l2 => k_is)
    (case c2 => k_is)
    (case k2 => k_is)
    (case a3 => k_is)
    (case l3 => k_is)
    (case c3 => k_is)
    (case k3 => k_is)
    (case a4 => k_is)
    (case l4 => k_is)
    (case c4 => k_is)
    (case k4 => k_is)
    (case a5 => k_is)
    (case l5 => k_is)
    (case c5 => k_is)
    (case k5 => k_is)
    (case a6 => k_is)
    (case l6 => k_is)
    (case c6 => k_is)
    (case k6 => k_is)
    (case a7 => k_is)
    (case i7 => k_is)
    (case l7 => k_is)
    (case c7 => k_is)
    (case k7 => k_is)
    (case a8 => k_is)
    (case i8 => k_is)
    (case l8 => k_is)
    (case c8 => k_is)
    (case k8 => k_is)
    (case a9 => k_is)
    (case l9 => k_is)
    (case c9 => k_is)
    (case k9 => k_is)
    (case a10 => k_is)
    (case l10 => k_is)
    (case c10 => k_is)
    (case k10 => k_is)
    (case a11 => k_is)
    (case i11 => k_is)
    (case l11 => k_is)
    (case c11 => k_is)
    (case k11 => k_is)
    (case a12 => k_is)
    (case l12 => k_is)
    (case c12 => k_is)
    (case k12 => k_is)
    (case a13 => k_is)
    (case l13 => k_is)
    (case c13 => k_is)
    (case k13 => k_is)
    (case a14 => k_is)
    (case l14 => k_is)
    (case c14 => k_is)
    (case k14 => k_is)
    (case a15 => k_is)
    (case l15 => k_is)
    (case c15 => k_is)
    (case k15 => k_is)
    (case a16 => k_is)
    (case i16 => k_is)
    (case l16 => k_is)
    (case c16 => k_is)
    (case k16 => k_is)
    (case a17 => k_is)
    (case l17 => k_is)
    (case c17 => k_is)
    (case k17 => k_is)
    (case a18 => k_is)
    (case l18 => k_is)
    (case c18 => k_is)
    (case k18 => k_is)
    (case a19 => k_is)
    (case l19 => k_is)
    (case c19 => k_is)
    (case k19 => k_is)
    (case a20 => k_is)
    (case l20 => k_is)
    (case c20 => k_is)
    (case k20 => k_is)
    (case a21 => k_is)
    (case l21 => k_is)
    (case c21 => k_is)
    (case k21 => k_is)
    (case a22 => k_is)
    (case l22 => k_is)
    (case c22 => k_is)
    (case k22 => k_is)
    (case a23 => k_is)
    (case l23 => k_is)
    (case c23 => k_is)
    (case k23 => k_is)
    (case n_len => k_is)
    (case n_range => k_is)
    (case n_isinstance => k_is)
    (case n_str => k_is)
    (case n_int => k_is)
    (case n_bool => k_is)
    (case n_list => k_is)
    (case n_sum => k_is)
    (case n_min => k_is)
    (case n_max => k_is)
    (case n_all => k_is)
    (case n_any => k_is)
    (case n_sorted => k_is)
    (case n_enumerate => k_is)
    (case n_zip => k_is)
    (case n_set => k_is)

