/-
  For every input SegmentParts answers true and its arguments read as before (no condition but the given card's own). Here: Tx, DvA, DvB, DvC, DvD, DvE, DvF, DvG, DvH, DvI, DvJ, DvK, DvL, DvM.
-/
import GoSem.Core.Utf8
import Derived.Orders
import Derived.Below
import Derived.Calls
import Derived.Laws.Entries
import Derived.Laws.Cells
import Derived.Laws.Rows
import Derived.Laws.IdiomCopy
import Derived.Laws.StructEq
import Derived.Laws.Bits
import Derived.Laws.Tables
import Derived.Laws.Build
import Derived.Laws.Slices
import Derived.Laws.Append
import Derived.Laws.Runes
import Derived.Conc.MuLone
set_option linter.all false
set_option linter.unusedSimpArgs false
set_option linter.unusedVariables false
/-
  Texts as letters: what a right text is, where its letters lie (plain Lean).
-/
namespace Go.Dv
open Go

theorem width_pos (s : ByteArray) (i : Nat) : 1 ≤ (Utf8.decode s i).2 := by
  unfold Utf8.decode
  simp only
  repeat' split
  all_goals simp

theorem width_le (s : ByteArray) (i : Nat) : (Utf8.decode s i).2 ≤ 4 := by
  unfold Utf8.decode
  simp only
  repeat' split
  all_goals simp

/-- Is there a whole letter at a place? -/
def okAt (s : ByteArray) (i : Nat) : Bool := !((Utf8.decode s i).1 == 65533 && (Utf8.decode s i).2 == 1)

theorem decode_in {s : ByteArray} {i : Nat} (hi : i < s.size) : i + (Utf8.decode s i).2 ≤ s.size := by
  unfold Utf8.decode
  simp only
  repeat' split
  all_goals (simp only [Bool.and_eq_true, decide_eq_true_eq, ge_iff_le] at *; omega)

theorem decode_loc {s t : ByteArray} {i j : Nat} (hok : okAt s i = true) (hj : j + (Utf8.decode s i).2 ≤ t.size) (h : ∀ k, k < (Utf8.decode s i).2 → t.get! (j + k) = s.get! (i + k)) :
    Utf8.decode t j = Utf8.decode s i := by
  have hw := width_pos s i
  have h0 := h 0 (by omega)
  unfold okAt at hok
  generalize hd : Utf8.decode s i = d at *
  obtain ⟨c, w⟩ := d
  simp only at *
  unfold Utf8.decode at hd ⊢
  simp only [h0] at hd ⊢
  split at hd
  · rename_i hb; rw [if_pos hb]; exact hd
  · rename_i hb
    rw [if_neg hb]
    split at hd
    · rename_i h2
      split at hd
      · rename_i h3
        simp only [Prod.mk.injEq] at hd
        obtain ⟨h4, h5⟩ := hd
        have h1 := h 1 (by omega)
        simp only [Bool.and_eq_true, decide_eq_true_eq, beq_iff_eq] at h2
        simp only [h1]
        rw [if_pos (by simp only [Bool.and_eq_true, decide_eq_true_eq, beq_iff_eq]; exact ⟨h2.1, by omega, h2.2.2⟩), if_pos h3, h4, h5]
      · exfalso; simp only [Prod.mk.injEq, Utf8.runeError] at hd; simp [← hd.1, ← hd.2] at hok
    · rename_i hn2
      split at hd
      · rename_i h2
        split at hd
        · rename_i h3
          simp only [Prod.mk.injEq] at hd
          obtain ⟨h4, h5⟩ := hd
          have h1 := h 1 (by omega)
          have h12 := h 2 (by omega)
          simp only [Bool.and_eq_true, decide_eq_true_eq, beq_iff_eq] at h2
          simp only [h1, h12]
          rw [if_neg (by simp only [Bool.and_eq_true, decide_eq_true_eq, beq_iff_eq]; omega), if_pos (by simp only [Bool.and_eq_true, decide_eq_true_eq, beq_iff_eq]; exact ⟨⟨h2.1.1, by omega, h2.1.2.2⟩, by omega, h2.2.2⟩), if_pos h3, h4, h5]
        · exfalso; simp only [Prod.mk.injEq, Utf8.runeError] at hd; simp [← hd.1, ← hd.2] at hok
      · rename_i hn3
        split at hd
        · rename_i h2
          split at hd
          · rename_i h3
            simp only [Prod.mk.injEq] at hd
            obtain ⟨h4, h5⟩ := hd
            have h1 := h 1 (by omega)
            have h12 := h 2 (by omega)
            have h13 := h 3 (by omega)
            simp only [Bool.and_eq_true, decide_eq_true_eq, beq_iff_eq] at h2
            simp only [h1, h12, h13]
            rw [if_neg (by simp only [Bool.and_eq_true, decide_eq_true_eq, beq_iff_eq]; omega), if_neg (by simp only [Bool.and_eq_true, decide_eq_true_eq, beq_iff_eq]; omega),
              if_pos (by simp only [Bool.and_eq_true, decide_eq_true_eq, beq_iff_eq]; exact ⟨⟨⟨h2.1.1.1, by omega, h2.1.1.2.2⟩, by omega, h2.1.2.2⟩, by omega, h2.2.2⟩), if_pos h3, h4, h5]
          · exfalso; simp only [Prod.mk.injEq, Utf8.runeError] at hd; simp [← hd.1, ← hd.2] at hok
        · exfalso; simp only [Prod.mk.injEq, Utf8.runeError] at hd; simp [← hd.1, ← hd.2] at hok

theorem get!_eq {s : ByteArray} {i : Nat} (h : i < s.size) : s.get! i = s[i] := by
  cases s with
  | mk d => simp only [ByteArray.get!, ByteArray.getElem_eq_getElem_data]; exact getElem!_pos d i h

theorem get!_append_left {a b : ByteArray} {i : Nat} (h : i < a.size) : (a ++ b).get! i = a.get! i := by
  rw [get!_eq (by rw [ByteArray.size_append]; omega), get!_eq h, ByteArray.getElem_append_left h]

theorem get!_append_right {a b : ByteArray} {i : Nat} (h : i < b.size) : (a ++ b).get! (a.size + i) = b.get! i := by
  rw [get!_eq (by rw [ByteArray.size_append]; omega), get!_eq h, ByteArray.getElem_append_right (by omega)]
  congr 1; omega

theorem get!_extract {s : ByteArray} {a b i : Nat} (h : a + i < b) (hb : b ≤ s.size) : (s.extract a b).get! i = s.get! (a + i) := by
  rw [get!_eq (by rw [ByteArray.size_extract]; omega), get!_eq (by omega), ByteArray.getElem_extract]

/-! ### letters -/

/-- A letter: bytes that are just one. -/
structure Letter (l : ByteArray) : Prop where
  pos : 0 < l.size
  ok : okAt l 0 = true
  all : (Utf8.decode l 0).2 = l.size

def cat : List ByteArray → ByteArray
  | [] => ByteArray.empty
  | l :: ls => l ++ cat ls

theorem cat_nil : cat [] = ByteArray.empty := rfl
theorem cat_cons (l : ByteArray) (ls : List ByteArray) : cat (l :: ls) = l ++ cat ls := rfl
theorem cat_append : ∀ (a b : List ByteArray), cat (a ++ b) = cat a ++ cat b
  | [], b => by simp [cat]
  | l :: a, b => by simp [cat, cat_append a b, ByteArray.append_assoc]
theorem cat_one (l : ByteArray) : cat [l] = l := by simp [cat]

/-- Texts of letters. -/
def Ls (ls : List ByteArray) : Prop := ∀ l ∈ ls, Letter l

theorem Ls.nil : Ls [] := by simp [Ls]
theorem Ls.append {a b : List ByteArray} (ha : Ls a) (hb : Ls b) : Ls (a ++ b) := by
  intro l h; rcases List.mem_append.1 h with h | h
  · exact ha l h
  · exact hb l h
theorem Ls.left {a b : List ByteArray} (h : Ls (a ++ b)) : Ls a := fun l hl => h l (List.mem_append_left _ hl)
theorem Ls.right {a b : List ByteArray} (h : Ls (a ++ b)) : Ls b := fun l hl => h l (List.mem_append_right _ hl)
theorem Ls.take {a : List ByteArray} (h : Ls a) (n : Nat) : Ls (a.take n) := fun l hl => h l (List.mem_of_mem_take hl)
theorem Ls.drop {a : List ByteArray} (h : Ls a) (n : Nat) : Ls (a.drop n) := fun l hl => h l (List.mem_of_mem_drop hl)
theorem Ls.tail {l : ByteArray} {a : List ByteArray} (h : Ls (l :: a)) : Ls a := fun x hx => h x (List.mem_cons_of_mem _ hx)
theorem Ls.head {l : ByteArray} {a : List ByteArray} (h : Ls (l :: a)) : Letter l := h l List.mem_cons_self

theorem Ls.len_le : ∀ {ls : List ByteArray}, Ls ls → ls.length ≤ (cat ls).size
  | [], _ => by simp
  | l :: ls, h => by
    have := Ls.len_le h.tail
    have := h.head.pos
    simp only [List.length_cons, cat_cons, ByteArray.size_append]; omega

theorem Ls.size_pos {ls : List ByteArray} (h : Ls ls) (hn : ls ≠ []) : 0 < (cat ls).size := by
  have := h.len_le
  have := List.length_pos_iff.2 hn
  omega

/-- The letter at a letter's place. -/
theorem decode_mid {pre : ByteArray} {l : ByteArray} {post : ByteArray} (hl : Letter l) : Utf8.decode (pre ++ (l ++ post)) pre.size = Utf8.decode l 0 := by
  refine decode_loc hl.ok ?_ ?_
  · simp only [ByteArray.size_append, hl.all]; omega
  · intro k hk
    rw [hl.all] at hk
    rw [get!_append_right (by rw [ByteArray.size_append]; omega), get!_append_left hk, Nat.zero_add]

theorem okAt_mid {pre : ByteArray} {l : ByteArray} {post : ByteArray} (hl : Letter l) : okAt (pre ++ (l ++ post)) pre.size = true := by
  unfold okAt
  rw [decode_mid hl]
  exact hl.ok

/-- A whole letter is one, cut out. -/
theorem letter_cut {s : ByteArray} {i : Nat} (hi : i < s.size) (hok : okAt s i = true) : Letter (s.extract i (i + (Utf8.decode s i).2)) := by
  have hle := decode_in hi
  have hw := width_pos s i
  have hs : (s.extract i (i + (Utf8.decode s i).2)).size = (Utf8.decode s i).2 := by rw [ByteArray.size_extract]; omega
  have hd : Utf8.decode (s.extract i (i + (Utf8.decode s i).2)) 0 = Utf8.decode s i := by
    refine decode_loc hok (by omega) ?_
    intro k hk
    rw [Nat.zero_add, get!_extract (by omega) hle]
  exact ⟨by omega, by unfold okAt; rw [hd]; exact hok, by rw [hd, hs]⟩

/-- Is the text right from a place on? -/
def vw (s : ByteArray) : Nat → Nat → Bool
  | 0, _ => true
  | k + 1, p => if p < s.size then okAt s p && vw s k (p + (Utf8.decode s p).2) else true

theorem vw_more (s : ByteArray) : ∀ (k p : Nat), s.size - p ≤ k → vw s (k + 1) p = vw s k p
  | 0, p, h => by simp [vw]; omega
  | k + 1, p, h => by
    have hw := width_pos s p
    rw [show vw s (k + 1 + 1) p = if p < s.size then okAt s p && vw s (k + 1) (p + (Utf8.decode s p).2) else true from rfl,
      show vw s (k + 1) p = if p < s.size then okAt s p && vw s k (p + (Utf8.decode s p).2) else true from rfl]
    split
    · rw [vw_more s k _ (by omega)]
    · rfl

theorem vw_same (s : ByteArray) (p : Nat) : ∀ (k : Nat), s.size - p ≤ k → vw s k p = vw s (s.size - p) p := by
  intro k h
  obtain ⟨d, rfl⟩ := Nat.exists_eq_add_of_le h
  induction d with
  | zero => rfl
  | succ d ih => rw [← Nat.add_assoc, vw_more s _ p (by omega), ih (by omega)]

/-- Right from a place on. -/
def vld (s : ByteArray) (p : Nat) : Bool := vw s (s.size - p) p

theorem vld_end {s : ByteArray} {p : Nat} (h : ¬ p < s.size) : vld s p = true := by
  unfold vld; rw [show s.size - p = 0 by omega]; rfl

theorem vld_step {s : ByteArray} {p : Nat} (h : p < s.size) : vld s p = (okAt s p && vld s (p + (Utf8.decode s p).2)) := by
  have hw := width_pos s p
  unfold vld
  obtain ⟨k, hk⟩ : ∃ k, s.size - p = k + 1 := ⟨s.size - p - 1, by omega⟩
  rw [hk, vw, if_pos h, vw_same s _ k (by omega)]

theorem ext_split (s : ByteArray) {i j k : Nat} (h1 : i ≤ j) (h2 : j ≤ k) : s.extract i j ++ s.extract j k = s.extract i k := by
  rw [ByteArray.extract_append_extract]; congr 1 <;> omega

/-- What is right is made of letters. -/
theorem vld_lets (s : ByteArray) (p : Nat) (hp : p ≤ s.size) (h : vld s p = true) : ∃ ls, Ls ls ∧ s.extract p s.size = cat ls := by
  by_cases hlt : p < s.size
  · have hw := width_pos s p
    have hin := decode_in hlt
    rw [vld_step hlt, Bool.and_eq_true] at h
    obtain ⟨ls, h1, h2⟩ := vld_lets s (p + (Utf8.decode s p).2) hin h.2
    refine ⟨s.extract p (p + (Utf8.decode s p).2) :: ls, ?_, ?_⟩
    · intro l hl
      rcases List.mem_cons.1 hl with rfl | hl
      · exact letter_cut hlt h.1
      · exact h1 l hl
    · rw [cat_cons, ← h2, ext_split s (by omega) hin]
  · refine ⟨[], Ls.nil, ?_⟩
    rw [show p = s.size by omega]; simp [cat]
termination_by s.size - p

theorem lets_vld {post : List ByteArray} (h : Ls post) : ∀ (pre : ByteArray), vld (pre ++ cat post) pre.size = true := by
  induction post with
  | nil => intro pre; exact vld_end (by simp [cat])
  | cons l ls ih =>
    intro pre
    have hl := h.head
    rw [cat_cons, vld_step (by rw [ByteArray.size_append, ByteArray.size_append]; have := hl.pos; omega), okAt_mid hl, decode_mid hl, hl.all, Bool.true_and]
    have := ih h.tail (pre ++ l)
    rwa [ByteArray.append_assoc, ByteArray.size_append] at this

theorem vld_iff (s : ByteArray) : vld s 0 = true ↔ ∃ ls, Ls ls ∧ s = cat ls := by
  constructor
  · intro h
    obtain ⟨ls, h1, h2⟩ := vld_lets s 0 (Nat.zero_le _) h
    exact ⟨ls, h1, by rw [← h2, ByteArray.extract_zero_size]⟩
  · rintro ⟨ls, h, rfl⟩
    simpa using lets_vld h ByteArray.empty

/-- A text's letters are its own. -/
theorem cat_inj : ∀ {a b : List ByteArray}, Ls a → Ls b → cat a = cat b → a = b
  | [], [], _, _, _ => rfl
  | [], l :: b, _, hb, h => by have h1 := hb.head.pos; have h2 := congrArg ByteArray.size h; rw [cat_cons, ByteArray.size_append] at h2; simp only [cat_nil, ByteArray.size_empty] at h2; omega
  | l :: a, [], ha, _, h => by have h1 := ha.head.pos; have h2 := congrArg ByteArray.size h; rw [cat_cons, ByteArray.size_append] at h2; simp only [cat_nil, ByteArray.size_empty] at h2; omega
  | l :: a, m :: b, ha, hb, h => by
    have e1 : Utf8.decode (cat (l :: a)) 0 = Utf8.decode l 0 := by simpa [cat] using decode_mid (pre := ByteArray.empty) (post := cat a) ha.head
    have e2 : Utf8.decode (cat (m :: b)) 0 = Utf8.decode m 0 := by simpa [cat] using decode_mid (pre := ByteArray.empty) (post := cat b) hb.head
    rw [h, e2] at e1
    have hs : l.size = m.size := by rw [← ha.head.all, ← hb.head.all, e1]
    simp only [cat_cons] at h
    have h1 := ByteArray.append_inj_left h hs
    subst h1
    rw [ByteArray.append_right_inj] at h
    rw [cat_inj ha.tail hb.tail h]

/-! ### places -/

/-- Bytes ahead of a letter. -/
def off (ls : List ByteArray) (k : Nat) : Nat := (cat (ls.take k)).size

theorem off_zero (ls : List ByteArray) : off ls 0 = 0 := by simp [off, cat]

theorem off_succ {ls : List ByteArray} {k : Nat} (hk : k < ls.length) : off ls (k + 1) = off ls k + ls[k].size := by
  unfold off
  rw [List.take_succ_eq_append_getElem hk, cat_append, ByteArray.size_append, cat_one]

theorem cat_split (ls : List ByteArray) (k : Nat) : cat ls = cat (ls.take k) ++ cat (ls.drop k) := by rw [← cat_append, List.take_append_drop]

theorem off_le (ls : List ByteArray) (k : Nat) : off ls k ≤ (cat ls).size := by
  rw [cat_split ls k, ByteArray.size_append]; unfold off; omega

theorem off_all {ls : List ByteArray} {k : Nat} (h : ls.length ≤ k) : off ls k = (cat ls).size := by
  unfold off; rw [List.take_of_length_le h]

theorem off_mono (ls : List ByteArray) {i j : Nat} (h : i ≤ j) : off ls i ≤ off ls j := by
  unfold off
  rw [show ls.take i = (ls.take j).take i by rw [List.take_take]; congr 1; omega]
  exact off_le (ls.take j) i

theorem off_lt {ls : List ByteArray} (h : Ls ls) {k : Nat} (hk : k < ls.length) : off ls k < (cat ls).size := by
  have := off_succ hk
  have := (h _ (List.getElem_mem hk)).pos
  have := off_le ls (k + 1)
  omega

theorem off_end {ls : List ByteArray} {k : Nat} (h : off ls k = (cat ls).size) (hl : Ls ls) : ls.length ≤ k := by
  rcases Nat.lt_or_ge k ls.length with h1 | h1
  · have := off_lt hl h1; omega
  · exact h1

theorem off_ge {ls : List ByteArray} (h : Ls ls) {k : Nat} (hk : k ≤ ls.length) : k ≤ off ls k := by
  have := (h.take k).len_le
  simp only [List.length_take] at this
  unfold off; omega

theorem decode_at {ls : List ByteArray} (h : Ls ls) {k : Nat} (hk : k < ls.length) : Utf8.decode (cat ls) (off ls k) = Utf8.decode ls[k] 0 := by
  have := decode_mid (pre := cat (ls.take k)) (post := cat (ls.drop (k + 1))) (h _ (List.getElem_mem hk))
  rwa [← cat_cons, List.getElem_cons_drop hk, ← cat_append, List.take_append_drop] at this

theorem okAt_at {ls : List ByteArray} (h : Ls ls) {k : Nat} (hk : k < ls.length) : okAt (cat ls) (off ls k) = true := by
  unfold okAt; rw [decode_at h hk]; exact (h _ (List.getElem_mem hk)).ok

theorem width_at {ls : List ByteArray} (h : Ls ls) {k : Nat} (hk : k < ls.length) : off ls k + (Utf8.decode (cat ls) (off ls k)).2 = off ls (k + 1) := by
  rw [decode_at h hk, (h _ (List.getElem_mem hk)).all, off_succ hk]

theorem extract_off (ls : List ByteArray) {i j : Nat} (hij : i ≤ j) : (cat ls).extract (off ls i) (off ls j) = cat ((ls.take j).drop i) := by
  rw [cat_split ls j, ByteArray.extract_append]
  have e1 : (cat (ls.take j)).size = off ls j := rfl
  rw [e1, Nat.sub_self, show (cat (ls.drop j)).extract (off ls i - off ls j) 0 = ByteArray.empty by rw [ByteArray.extract_eq_empty_iff]; omega, ByteArray.append_empty]
  have e2 : cat (ls.take j) = cat (ls.take i) ++ cat ((ls.take j).drop i) := by
    rw [cat_split (ls.take j) i, List.take_take, Nat.min_eq_left hij]
  have e3 : off ls j = (cat (ls.take i)).size + (cat ((ls.take j).drop i)).size := by rw [← ByteArray.size_append, ← e2]; rfl
  rw [e3, e2]
  exact ByteArray.extract_append_eq_right rfl rfl

theorem extract_to (ls : List ByteArray) (j : Nat) : (cat ls).extract 0 (off ls j) = cat (ls.take j) := by
  have := extract_off ls (Nat.zero_le j)
  rwa [off_zero, List.drop_zero] at this

theorem extract_from (ls : List ByteArray) (i : Nat) : (cat ls).extract (off ls i) (cat ls).size = cat (ls.drop i) := by
  rcases Nat.le_total i ls.length with h | h
  · have := extract_off ls h
    rwa [off_all (Nat.le_refl _), List.take_length] at this
  · rw [off_all h, List.drop_eq_nil_of_le h]; simp [cat]

theorem cat_size (ls : List ByteArray) (k : Nat) : (cat ls).size = off ls k + (cat (ls.drop k)).size := by
  rw [cat_split ls k, ByteArray.size_append]; rfl
/-- A letter's bytes, told anew, are as many. -/
theorem enc_width {s : ByteArray} {i : Nat} (hok : okAt s i = true) : (Utf8.encode ((Utf8.decode s i).1 : Nat)).size = (Utf8.decode s i).2 := by
  unfold okAt at hok
  generalize hd : Utf8.decode s i = d at *
  obtain ⟨c, w⟩ := d
  simp only at *
  unfold Utf8.decode at hd
  simp only at hd
  have key : ∀ c : Nat, Utf8.valid c = true → (Utf8.encode (c : Int)).size = if c < 0x80 then 1 else if c < 0x800 then 2 else if c < 0x10000 then 3 else 4 := by
    intro c hc
    unfold Utf8.encode
    simp only [hc, if_true, Int.toNat_natCast]
    split
    · rfl
    · split
      · rfl
      · split <;> rfl
  have b0 : (s.get! (i + 0)).toNat < 256 := (s.get! (i+0)).toNat_lt
  have valid_of : ∀ c : Nat, c < 0xD800 → Utf8.valid c = true := by
    intro c hc; simp [Utf8.valid]; omega
  split at hd
  · simp only [Prod.mk.injEq] at hd
    obtain ⟨rfl, rfl⟩ := hd
    rw [key _ (valid_of _ (by omega)), if_pos (by omega)]
  · split at hd
    · split at hd
      · rename_i h1 h2
        simp only [Prod.mk.injEq] at hd
        obtain ⟨rfl, rfl⟩ := hd
        simp only [Bool.and_eq_true, decide_eq_true_eq, beq_iff_eq, ge_iff_le] at h1 h2
        rw [key _ (valid_of _ (by omega)), if_neg (by omega), if_pos (by omega)]
      · exfalso; simp only [Prod.mk.injEq, Utf8.runeError] at hd; simp [← hd.1, ← hd.2] at hok
    · split at hd
      · split at hd
        · rename_i h1 h2
          simp only [Prod.mk.injEq] at hd
          obtain ⟨rfl, rfl⟩ := hd
          simp only [Bool.and_eq_true, decide_eq_true_eq, beq_iff_eq, ge_iff_le] at h1 h2
          rw [key _ h2.2, if_neg (by omega), if_neg (by omega), if_pos (by omega)]
        · exfalso; simp only [Prod.mk.injEq, Utf8.runeError] at hd; simp [← hd.1, ← hd.2] at hok
      · split at hd
        · split at hd
          · rename_i h1 h2
            simp only [Prod.mk.injEq] at hd
            obtain ⟨rfl, rfl⟩ := hd
            simp only [Bool.and_eq_true, decide_eq_true_eq, beq_iff_eq, ge_iff_le] at h1 h2
            rw [key _ h2.2, if_neg (by omega), if_neg (by omega), if_neg (by omega)]
          · exfalso; simp only [Prod.mk.injEq, Utf8.runeError] at hd; simp [← hd.1, ← hd.2] at hok
        · exfalso; simp only [Prod.mk.injEq, Utf8.runeError] at hd; simp [← hd.1, ← hd.2] at hok
end Go.Dv
/-
  Deep values: what the program's values read as, and how a reading survives a change of memory.
-/
namespace Go.Dv
set_option linter.unusedVariables false
open Go Go.RowKit

/-- What a value reads as. -/
inductive DV where
  | raw (v : Value)
  | junk
  | imm (cells : List DV)
  | lst (sz : Nat) (full : Bool) (es : List (List DV))
  | loc (i g off : Nat)
  | el (i g sz k o : Nat)
  | row (i g sz off len : Nat)
  | agg (cells : List DV)
  | tup (vs : List DV)
  | fn (f : Fn) (first captured : List DV)
  | ifc (t : TypeId) (d : DV)
  | mapp (i g : Nat)

instance : Inhabited DV := ⟨.junk⟩

/-- Where an object lies: not placed yet; nowhere (a nil slice's); in a block. -/
inductive Pl where
  | un
  | nowhere
  | blk (b : Nat)
  deriving DecidableEq

structure Cx where
  heap : Array Obj
  pl : Nat → Nat → Pl
  mu : Nat → Prop

mutual
def Rep (C : Cx) : DV → Value → Prop
  | .raw v', v => v = v'
  | .junk, _ => True
  | .imm cs, v => ∃ b off c T fr, v = .pointer (some ⟨b, off, none⟩) ∧ ¬ C.mu b ∧ C.heap[b]? = some (.cells c T fr) ∧ RepL C cs (c.toList.drop off)
  | .lst sz full es, v => ∃ A cap, v = .slice A es.length cap ∧ es.length ≤ cap ∧ (full = true → cap = es.length) ∧ (A = none → cap = 0) ∧
      (es = [] ∨ ∃ b off c T fr, A = some ⟨b, off, none⟩ ∧ ¬ C.mu b ∧ C.heap[b]? = some (.cells c T fr) ∧ RepLL C sz es (c.toList.drop off))
  | .loc i g off, v => ∃ b, C.pl i g = .blk b ∧ v = .pointer (some ⟨b, off, none⟩)
  | .el i g sz k o, v => ∃ b, C.pl i g = .blk b ∧ v = .pointer (some ⟨b, k * sz + o, none⟩)
  | .row i g sz off len, v => (C.pl i g = .nowhere ∧ off = 0 ∧ len = 0 ∧ ∃ A, v = .slice A 0 0) ∨
      ∃ b o' cap c T fr, C.pl i g = .blk b ∧ v = .slice (some ⟨b, o', none⟩) len cap ∧ (o' = off * sz ∨ cap = 0) ∧ len ≤ cap ∧ cap ≤ maxLen ∧ C.heap[b]? = some (.cells c T fr) ∧ (off + cap) * sz ≤ c.size
  | .agg cs, v => ∃ vs : List Value, v = .agg vs.toArray ∧ vs.length = cs.length ∧ RepL C cs vs
  | .tup cs, v => ∃ vs : List Value, v = .tuple vs.toArray ∧ vs.length = cs.length ∧ RepL C cs vs
  | .fn f a b, v => ∃ xs ys : List Value, v = .func f xs.toArray ys.toArray ∧ xs.length = a.length ∧ RepL C a xs ∧ ys.length = b.length ∧ RepL C b ys
  | .ifc t d, v => ∃ x, v = .iface t x ∧ Rep C d x
  | .mapp i g, v => ∃ b, C.pl i g = .blk b ∧ v = .map (some b)
/-- The values begin with those. -/
def RepL (C : Cx) : List DV → List Value → Prop
  | [], _ => True
  | d :: ds, v :: vs => Rep C d v ∧ RepL C ds vs
  | _ :: _, [] => False
/-- The cells begin with those elements, each of sz cells. -/
def RepLL (C : Cx) (sz : Nat) : List (List DV) → List Value → Prop
  | [], _ => True
  | e :: es, vs => e.length = sz ∧ RepL C e vs ∧ RepLL C sz es (vs.drop sz)
end

/-- What stays as it is from one world to a later one. -/
structure CxLe (A B : Cx) : Prop where
  pl : ∀ i g, A.pl i g ≠ .un → B.pl i g = A.pl i g
  heap : ∀ (b : Nat) (o : Obj), A.heap[b]? = some o → ¬ A.mu b → B.heap[b]? = some o ∧ ¬ B.mu b
  shape : ∀ (b : Nat) (c : Array Value) (T : TypeId) (fr : Nat × Nat), A.heap[b]? = some (.cells c T fr) → ∃ (c' : Array Value) (fr' : Nat × Nat), B.heap[b]? = some (.cells c' T fr') ∧ c'.size = c.size

theorem CxLe.refl (A : Cx) : CxLe A A := ⟨fun _ _ _ => rfl, fun _ _ h hm => ⟨h, hm⟩, fun _ c _ fr h => ⟨c, fr, h, rfl⟩⟩

theorem CxLe.trans {A B C : Cx} (h : CxLe A B) (k : CxLe B C) : CxLe A C :=
  ⟨fun i g hu => (k.pl i g (by rw [h.pl i g hu]; exact hu)).trans (h.pl i g hu),
   fun b o ho hm => let ⟨h1, h2⟩ := h.heap b o ho hm; k.heap b o h1 h2,
   fun b c T fr ho => let ⟨_, _, h1, h2⟩ := h.shape b c T fr ho; let ⟨c2, f2, h3, h4⟩ := k.shape b _ T _ h1; ⟨c2, f2, h3, h4.trans h2⟩⟩

mutual
theorem Rep.mono {A B : Cx} (h : CxLe A B) : ∀ (d : DV) (v : Value), Rep A d v → Rep B d v
  | .raw _, _, r => by simpa only [Rep] using r
  | .junk, _, _ => by simp only [Rep]
  | .imm cs, v, r => by
    simp only [Rep] at r ⊢
    obtain ⟨b, off, c, T, fr, hv, hm, hh, hr⟩ := r
    obtain ⟨h1, h2⟩ := h.heap b _ hh hm
    exact ⟨b, off, c, T, fr, hv, h2, h1, RepL.mono h cs _ hr⟩
  | .lst sz full es, v, r => by
    simp only [Rep] at r ⊢
    obtain ⟨a, cap, hv, hle, hf, hn, hr⟩ := r
    refine ⟨a, cap, hv, hle, hf, hn, ?_⟩
    rcases hr with hr | ⟨b, off, c, T, fr, ha, hm, hh, hr⟩
    · exact .inl hr
    · obtain ⟨h1, h2⟩ := h.heap b _ hh hm
      exact .inr ⟨b, off, c, T, fr, ha, h2, h1, RepLL.mono h sz es _ hr⟩
  | .loc i g off, v, r => by
    simp only [Rep] at r ⊢
    obtain ⟨b, hp, hv⟩ := r
    exact ⟨b, by rw [h.pl i g (by rw [hp]; simp)]; exact hp, hv⟩
  | .el i g sz k o, v, r => by
    simp only [Rep] at r ⊢
    obtain ⟨b, hp, hv⟩ := r
    exact ⟨b, by rw [h.pl i g (by rw [hp]; simp)]; exact hp, hv⟩
  | .row i g sz off len, v, r => by
    simp only [Rep] at r ⊢
    rcases r with ⟨hp, r⟩ | ⟨b, o', cap, c, T, fr, hp, hv, ho, hl, hmx, hh, hs⟩
    · exact .inl ⟨by rw [h.pl i g (by rw [hp]; simp)]; exact hp, r⟩
    · obtain ⟨c', fr', h1, h2⟩ := h.shape b c T fr hh
      exact .inr ⟨b, o', cap, c', T, fr', by rw [h.pl i g (by rw [hp]; simp)]; exact hp, hv, ho, hl, hmx, h1, by omega⟩
  | .agg cs, v, r => by
    simp only [Rep] at r ⊢
    obtain ⟨vs, hv, hl, hr⟩ := r
    exact ⟨vs, hv, hl, RepL.mono h cs _ hr⟩
  | .tup cs, v, r => by
    simp only [Rep] at r ⊢
    obtain ⟨vs, hv, hl, hr⟩ := r
    exact ⟨vs, hv, hl, RepL.mono h cs _ hr⟩
  | .fn f a b, v, r => by
    simp only [Rep] at r ⊢
    obtain ⟨xs, ys, hv, hl, hr, hl2, hr2⟩ := r
    exact ⟨xs, ys, hv, hl, RepL.mono h a _ hr, hl2, RepL.mono h b _ hr2⟩
  | .ifc t d, v, r => by
    simp only [Rep] at r ⊢
    obtain ⟨x, hv, hr⟩ := r
    exact ⟨x, hv, Rep.mono h d _ hr⟩
  | .mapp i g, v, r => by
    simp only [Rep] at r ⊢
    obtain ⟨b, hp, hv⟩ := r
    exact ⟨b, by rw [h.pl i g (by rw [hp]; simp)]; exact hp, hv⟩
theorem RepL.mono {A B : Cx} (h : CxLe A B) : ∀ (ds : List DV) (vs : List Value), RepL A ds vs → RepL B ds vs
  | [], _, _ => by simp only [RepL]
  | d :: ds, v :: vs, r => by simp only [RepL] at r ⊢; exact ⟨Rep.mono h d v r.1, RepL.mono h ds vs r.2⟩
  | _ :: _, [], r => by simp only [RepL] at r
theorem RepLL.mono {A B : Cx} (h : CxLe A B) (sz : Nat) : ∀ (es : List (List DV)) (vs : List Value), RepLL A sz es vs → RepLL B sz es vs
  | [], _, _ => by simp only [RepLL]
  | e :: es, vs, r => by simp only [RepLL] at r ⊢; exact ⟨r.1, RepL.mono h e _ r.2.1, RepLL.mono h sz es _ r.2.2⟩
end

theorem RepL.get {C : Cx} : ∀ {ds : List DV} {vs : List Value} (_ : RepL C ds vs) (i : Nat) (d : DV), ds[i]? = some d → ∃ v, vs[i]? = some v ∧ Rep C d v
  | d :: ds, v :: vs, r, 0, d', h => by simp only [RepL] at r; simp at h; subst h; exact ⟨v, rfl, r.1⟩
  | d :: ds, v :: vs, r, i + 1, d', h => by simp only [RepL] at r; simp at h; simpa using RepL.get r.2 i d' h
  | _ :: _, [], r, _, _, _ => by simp only [RepL] at r
  | [], _, _, i, d, h => by simp at h

theorem RepL.of_get {C : Cx} : ∀ {ds : List DV} {vs : List Value} (_ : ∀ (i : Nat) (d : DV), ds[i]? = some d → ∃ v, vs[i]? = some v ∧ Rep C d v), RepL C ds vs
  | [], _, _ => by simp only [RepL]
  | d :: ds, [], h => by have := h 0 d rfl; simp at this
  | d :: ds, v :: vs, h => by
    simp only [RepL]
    constructor
    · have := h 0 d rfl; simpa using this
    · exact RepL.of_get fun i d' hd => by have := h (i + 1) d' (by simpa using hd); simpa using this

theorem RepL.le {C : Cx} : ∀ {ds : List DV} {vs : List Value} (_ : RepL C ds vs), ds.length ≤ vs.length
  | [], _, _ => by simp
  | _ :: ds, _ :: vs, r => by simp only [RepL] at r; have := RepL.le r.2; simp; exact this
  | _ :: _, [], r => by simp only [RepL] at r

theorem RepL.drop {C : Cx} {ds : List DV} {vs : List Value} (r : RepL C ds vs) (n : Nat) : RepL C (ds.drop n) (vs.drop n) :=
  RepL.of_get fun i d h => by
    rw [List.getElem?_drop] at h
    obtain ⟨v, h1, h2⟩ := r.get _ _ h
    exact ⟨v, by rw [List.getElem?_drop]; exact h1, h2⟩

theorem RepL.take {C : Cx} {ds : List DV} {vs : List Value} (r : RepL C ds vs) (n : Nat) : RepL C (ds.take n) (vs.take n) :=
  RepL.of_get fun i d h => by
    rw [List.getElem?_take] at h
    split at h
    · obtain ⟨v, h1, h2⟩ := r.get _ _ h
      exact ⟨v, by rw [List.getElem?_take, if_pos (by assumption)]; exact h1, h2⟩
    · cases h

theorem RepL.take' {C : Cx} {ds : List DV} {vs : List Value} (r : RepL C ds vs) (n : Nat) : RepL C (ds.take n) vs :=
  RepL.of_get fun i d h => by
    rw [List.getElem?_take] at h
    split at h
    · exact r.get _ _ h
    · cases h

theorem RepL.append {C : Cx} : ∀ {ds ds' : List DV} {vs vs' : List Value} (_ : RepL C ds vs) (_ : vs.length = ds.length) (_ : RepL C ds' vs'), RepL C (ds ++ ds') (vs ++ vs')
  | [], ds', vs, vs', _, hl, r' => by have : vs = [] := List.eq_nil_of_length_eq_zero (by simpa using hl); subst this; simpa using r'
  | d :: ds, ds', v :: vs, vs', r, hl, r' => by
    simp only [RepL, List.cons_append] at r ⊢
    exact ⟨r.1, RepL.append r.2 (by simpa using hl) r'⟩
  | _ :: _, _, [], _, r, _, _ => by simp only [RepL] at r

theorem RepL.append_right {C : Cx} {ds : List DV} {vs vs' : List Value} (r : RepL C ds vs) : RepL C ds (vs ++ vs') :=
  RepL.of_get fun i d h => by
    obtain ⟨v, h1, h2⟩ := r.get i d h
    exact ⟨v, by rw [List.getElem?_append_left (by exact (List.getElem?_eq_some_iff.1 h1).1)]; exact h1, h2⟩

theorem RepL.set {C : Cx} {ds : List DV} {vs : List Value} (r : RepL C ds vs) (i : Nat) {d : DV} {v : Value} (hd : Rep C d v) : RepL C (ds.set i d) (vs.set i v) :=
  RepL.of_get fun j d' h => by
    rw [List.getElem?_set] at h
    split at h
    · split at h
      · cases h
        subst i
        have := r.le
        refine ⟨v, ?_, hd⟩
        rw [List.getElem?_set_self (by omega)]
      · cases h
    · obtain ⟨v', h1, h2⟩ := r.get j d' h
      exact ⟨v', by rw [List.getElem?_set_ne (by assumption)]; exact h1, h2⟩

theorem RepLL.len {C : Cx} {sz : Nat} : ∀ {es : List (List DV)} {vs : List Value} (_ : RepLL C sz es vs) (i : Nat) (e : List DV), es[i]? = some e → e.length = sz ∧ RepL C e (vs.drop (i * sz))
  | e :: es, vs, r, 0, e', h => by simp only [RepLL] at r; simp at h; subst h; simpa using ⟨r.1, r.2.1⟩
  | e :: es, vs, r, i + 1, e', h => by
    simp only [RepLL] at r
    have := RepLL.len r.2.2 i e' (by simpa using h)
    rw [List.drop_drop] at this
    rw [show (i + 1) * sz = sz + i * sz by rw [Nat.add_mul]; omega]
    exact this
  | [], _, _, i, e, h => by simp at h

theorem RepLL.drop {C : Cx} {sz : Nat} : ∀ {es : List (List DV)} {vs : List Value} (_ : RepLL C sz es vs) (n : Nat), RepLL C sz (es.drop n) (vs.drop (n * sz))
  | es, vs, r, 0 => by simpa using r
  | [], vs, r, n + 1 => by simp only [List.drop_nil, RepLL]
  | e :: es, vs, r, n + 1 => by
    simp only [RepLL] at r
    have := RepLL.drop r.2.2 n
    rw [List.drop_drop] at this
    rw [show (n + 1) * sz = sz + n * sz by rw [Nat.add_mul]; omega]
    exact this

theorem RepLL.take {C : Cx} {sz : Nat} : ∀ {es : List (List DV)} {vs : List Value} (_ : RepLL C sz es vs) (n : Nat), RepLL C sz (es.take n) vs
  | es, vs, r, 0 => by simp only [List.take_zero, RepLL]
  | [], vs, r, n + 1 => by simp only [List.take_nil, RepLL]
  | e :: es, vs, r, n + 1 => by
    simp only [RepLL, List.take_succ_cons] at r ⊢
    exact ⟨r.1, r.2.1, RepLL.take r.2.2 n⟩

theorem RepLL.of_get {C : Cx} {sz : Nat} : ∀ {es : List (List DV)} {vs : List Value} (_ : ∀ (i : Nat) (e : List DV), es[i]? = some e → e.length = sz ∧ RepL C e (vs.drop (i * sz))), RepLL C sz es vs
  | [], _, _ => by simp only [RepLL]
  | e :: es, vs, h => by
    simp only [RepLL]
    have h0 := h 0 e rfl
    refine ⟨h0.1, by simpa using h0.2, RepLL.of_get fun i e' he => ?_⟩
    have := h (i + 1) e' (by simpa using he)
    rw [List.drop_drop]
    rw [show sz + i * sz = (i + 1) * sz by rw [Nat.add_mul]; omega]
    exact this

/-- A row of elements, flat. -/
theorem RepLL.of_flat {C : Cx} {sz : Nat} : ∀ {es : List (List DV)} {vs : List Value} (_ : ∀ e ∈ es, e.length = sz) (_ : RepL C es.flatten vs), RepLL C sz es vs
  | [], _, _, _ => by simp only [RepLL]
  | e :: es, vs, hl, r => by
    simp only [RepLL]
    have he : e.length = sz := hl e (by simp)
    refine ⟨he, ?_, ?_⟩
    · have := r.take' e.length
      simpa using this
    · have := r.drop e.length
      simp only [List.flatten_cons, List.drop_left'] at this
      rw [← he]
      exact RepLL.of_flat (fun x hx => hl x (by simp [hx]) |>.trans he.symm) this

theorem RepLL.flat {C : Cx} {sz : Nat} : ∀ {es : List (List DV)} {vs : List Value} (_ : RepLL C sz es vs), RepL C es.flatten vs
  | [], _, _ => by simp only [List.flatten_nil, RepL]
  | e :: es, vs, r => by
    simp only [RepLL] at r
    have h1 := r.2.1.take e.length
    rw [List.take_length] at h1
    have h2 := RepLL.flat r.2.2
    have hle := r.2.1.le
    have := RepL.append h1 (by simp; omega) h2
    rw [r.1, List.take_append_drop] at this
    simpa using this
end Go.Dv
/-
  The store of objects that a call may write, what it means that a world holds them, and the judgement of a piece of code over deep values.
-/
namespace Go.Dv
set_option linter.unusedVariables false
open Go Go.RowKit

/-- An object that may be written. -/
inductive SO where
  | dead
  | pend (g : Nat)
  | cells (g : Nat) (cs : List DV)
  | row (g sz : Nat) (es : List (List DV))
  | other (g : Nat) (o : Obj)
  | map (g : Nat) (es : List (DV × DV × Nat)) (clock : Nat)

def SO.gen : SO → Option Nat
  | .dead | .pend _ => none
  | .cells g _ | .row g _ _ | .other g _ | .map g _ _ => some g

def Thaw (fr : Nat × Nat) (n : Nat) : Prop := ∀ k, k < n → ¬ (fr.1 ≤ k ∧ k < fr.2)

def Mut (pl : Nat → Nat → Pl) (S : List SO) (b : Nat) : Prop := ∃ i o g, S[i]? = some o ∧ o.gen = some g ∧ pl i g = .blk b

def cxOf (w : World) (pl : Nat → Nat → Pl) (S : List SO) : Cx := ⟨w.heap, pl, Mut pl S⟩

def plain (o : Obj) : Prop := match o with | .cells .. | .map .. => False | _ => True

def ObjOk (C : Cx) (i : Nat) : SO → Prop
  | .dead => True
  | .pend g => C.pl i g = .un
  | .cells g cs => ∃ b c T fr, C.pl i g = .blk b ∧ C.heap[b]? = some (.cells c T fr) ∧ Thaw fr c.size ∧ c.size = cs.length ∧ RepL C cs c.toList
  | .row g sz es => (C.pl i g = .nowhere ∧ es = []) ∨ ∃ b c T fr, C.pl i g = .blk b ∧ C.heap[b]? = some (.cells c T fr) ∧ Thaw fr c.size ∧ RepLL C sz es c.toList
  | .other g o => ∃ b, C.pl i g = .blk b ∧ C.heap[b]? = some o ∧ plain o
  | .map g es clock => ∃ (b : Nat) (ent : Array MapEntry), C.pl i g = .blk b ∧ C.heap[b]? = some (.map ent clock) ∧ ent.size = es.length ∧
      RepL C (es.map (·.1)) (ent.toList.map (·.key)) ∧ RepL C (es.map (·.2.1)) (ent.toList.map (·.val)) ∧ es.map (·.2.2) = ent.toList.map (·.born)

structure Good (W0 : World) (pl : Nat → Nat → Pl) (S : List SO) (w : World) : Prop where
  below : Below W0.heap.size W0 w
  objs : ∀ (i : Nat) (o : SO), S[i]? = some o → ObjOk (cxOf w pl S) i o
  inj : ∀ (i j : Nat) (o o' : SO) (g g' b : Nat), S[i]? = some o → S[j]? = some o' → o.gen = some g → o'.gen = some g' → pl i g = .blk b → pl j g' = .blk b → i = j
  high : ∀ b, Mut pl S b → W0.heap.size ≤ b ∧ b < w.heap.size
  fresh : ∀ i, ∃ g0, ∀ g, g0 ≤ g → pl i g = .un

structure Agree (W0 : World) (pl : Nat → Nat → Pl) (e : List DV) (S : List SO) (a : Act) (w : World) : Prop where
  len : a.tmps.size = e.length
  env : RepL (cxOf w pl S) e a.tmps.toList
  good : Good W0 pl S w
  defers : a.defers = []

inductive Out where
  | ret (d : DV)
  | pan (d : DV)

def OutRep (C : Cx) : Out → Ending → Prop
  | .ret d, .returned v => Rep C d v
  | .pan d, .panicked [p] => Rep C d p.v ∧ p.recovered = false ∧ p.goexit = false
  | _, _ => False

/-- THE JUDGEMENT OF A CALL: with these deep values, in a world that holds this store, it comes to what post says, and nothing that is not of the store has changed. -/
def Ct (P : Program) (W0 : World) (f : FuncId) (args : List DV) (S : List SO) (post : Out → List SO → Prop) : Prop :=
  ∀ (pl : Nat → Nat → Pl) (w : World) (vs : List Value), Good W0 pl S w → vs.length = args.length → RepL (cxOf w pl S) args vs →
    Calls P f vs.toArray w fun e w' => ∃ o S' pl', post o S' ∧ Good W0 pl' S' w' ∧ CxLe (cxOf w pl S) (cxOf w' pl' S') ∧ OutRep (cxOf w' pl' S') o e

theorem Ct.mono {P : Program} {W0 : World} {f : FuncId} {args : List DV} {S : List SO} {p q : Out → List SO → Prop} (h : Ct P W0 f args S p) (hpq : ∀ o S', p o S' → q o S') : Ct P W0 f args S q :=
  fun pl w vs hg hl hr => (h pl w vs hg hl hr).mono fun _ _ ⟨o, S', pl', hp, r⟩ => ⟨o, S', pl', hpq _ _ hp, r⟩

/-- What is left of a function's code. -/
inductive Kt where
  | code (c : Code)
  | blk (id : Nat)
  | lp (R : List DV → List SO → Prop)

/-- A call that is being done. -/
structure Ac where
  P : Program
  W0 : World
  fn : Func
  c0 : Cx
  post : Out → List SO → Prop

def Ac.R (A : Ac) (e : Ending) (w' : World) : Prop :=
  ∃ o S' pl', A.post o S' ∧ Good A.W0 pl' S' w' ∧ CxLe A.c0 (cxOf w' pl' S') ∧ OutRep (cxOf w' pl' S') o e

def ExitK (A : Ac) : List Kt → Exit → Act → World → Prop
  | [] => bodyPost A.P A.fn A.R
  | .code c :: ks => Exit.then (c.wp A.P (ExitK A ks)) (ExitK A ks)
  | .blk id :: ks => Exit.inBlock id (ExitK A ks)
  | .lp R :: ks => Exit.then (fun a w => ∃ e S pl, R e S ∧ Agree A.W0 pl e S a w ∧ CxLe A.c0 (cxOf w pl S)) (ExitK A ks)

theorem ExitK_ret (A : Ac) : ∀ (ks : List Kt) (a : Act) (w : World), ExitK A [] .ret a w → ExitK A ks .ret a w
  | [], _, _, h => h
  | .code _ :: ks, a, w, h => by simpa only [ExitK, Exit.then] using ExitK_ret A ks a w h
  | .blk _ :: ks, a, w, h => by simpa only [ExitK, Exit.inBlock] using ExitK_ret A ks a w h
  | .lp _ :: ks, a, w, h => by simpa only [ExitK, Exit.then] using ExitK_ret A ks a w h

theorem ExitK_panic (A : Ac) (ch : List PanicEntry) : ∀ (ks : List Kt) (a : Act) (w : World), ExitK A [] (.panic ch) a w → ExitK A ks (.panic ch) a w
  | [], _, _, h => h
  | .code _ :: ks, a, w, h => by simpa only [ExitK, Exit.then] using ExitK_panic A ch ks a w h
  | .blk _ :: ks, a, w, h => by simpa only [ExitK, Exit.inBlock] using ExitK_panic A ch ks a w h
  | .lp _ :: ks, a, w, h => by simpa only [ExitK, Exit.then] using ExitK_panic A ch ks a w h

def popTo (id : Nat) : List Kt → Option (List Kt)
  | [] => none
  | .blk id' :: ks => if id = id' then some ks else popTo id ks
  | .code _ :: ks | .lp _ :: ks => popTo id ks

theorem ExitK_exit (A : Ac) (id : Nat) : ∀ (ks ks' : List Kt) (a : Act) (w : World), popTo id ks = some ks' → ExitK A ks' .normal a w → ExitK A ks (.exit id) a w
  | [], _, _, _, h, _ => by simp [popTo] at h
  | .code _ :: ks, ks', a, w, h, hn => by simpa only [ExitK, Exit.then] using ExitK_exit A id ks ks' a w (by simpa only [popTo] using h) hn
  | .lp _ :: ks, ks', a, w, h, hn => by simpa only [ExitK, Exit.then] using ExitK_exit A id ks ks' a w (by simpa only [popTo] using h) hn
  | .blk id' :: ks, ks', a, w, h, hn => by
    simp only [ExitK, Exit.inBlock]
    simp only [popTo] at h
    split at h
    · cases h; rename_i he; rw [if_pos he]; exact hn
    · rename_i he; rw [if_neg he]; exact ExitK_exit A id ks ks' a w h hn

/-- THE JUDGEMENT OF WHAT IS LEFT: from these deep values in the frame, and this store, it comes to its post. -/
def Sk (A : Ac) (ks : List Kt) (e : List DV) (S : List SO) : Prop :=
  ∀ (pl : Nat → Nat → Pl) (a : Act) (w : World), Agree A.W0 pl e S a w → CxLe A.c0 (cxOf w pl S) → ExitK A ks .normal a w

/-- The function's end. -/
def Rt (A : Ac) (e : List DV) (S : List SO) : Prop :=
  ∀ (pl : Nat → Nat → Pl) (a : Act) (w : World), Agree A.W0 pl e S a w → CxLe A.c0 (cxOf w pl S) → ExitK A [] .ret a w

section rules
variable {A : Ac} {ks : List Kt} {e : List DV} {S : List SO}

theorem Sk_seq {x y : Code} (h : Sk A (.code x :: .code y :: ks) e S) : Sk A (.code (.seq x y) :: ks) e S := by
  intro pl a w ha hc
  have := h pl a w ha hc
  simp only [ExitK, Exit.then] at this ⊢
  exact wp_seq this

theorem Sk_skip (h : Sk A ks e S) : Sk A (.code .skip :: ks) e S := by
  intro pl a w ha hc
  simp only [ExitK, Exit.then]
  exact wp_skip (h pl a w ha hc)

theorem Sk_block {id : Nat} {x : Code} (h : Sk A (.code x :: .blk id :: ks) e S) : Sk A (.code (.block id x) :: ks) e S := by
  intro pl a w ha hc
  have := h pl a w ha hc
  simp only [ExitK, Exit.then] at this ⊢
  exact wp_block this

theorem Sk_blk {id : Nat} (h : Sk A ks e S) : Sk A (.blk id :: ks) e S := by
  intro pl a w ha hc
  simpa only [ExitK, Exit.inBlock] using h pl a w ha hc

theorem Sk_exit {id : Nat} {ks' : List Kt} (hp : popTo id ks = some ks') (h : Sk A ks' e S) : Sk A (.code (.exit id) :: ks) e S := by
  intro pl a w ha hc
  simp only [ExitK, Exit.then]
  exact wp_exit (ExitK_exit A id ks ks' a w hp (h pl a w ha hc))

theorem Sk_ret (h : Rt A e S) : Sk A (.code .ret :: ks) e S := by
  intro pl a w ha hc
  simp only [ExitK, Exit.then]
  exact wp_ret (ExitK_ret A ks a w (h pl a w ha hc))

theorem Sk_nil (h : Rt A e S) : Sk A [] e S := fun pl a w ha hc => h pl a w ha hc

theorem Sk_lp {R : List DV → List SO → Prop} (h : R e S) : Sk A (.lp R :: ks) e S := by
  intro pl a w ha hc
  simp only [ExitK, Exit.then]
  exact ⟨e, S, pl, h, ha, hc⟩

/-- What an operand reads as. -/
def evD (e : List DV) : Operand → DV
  | .tmp t => e.getD t .junk
  | .const v => .raw v
  | .global g => .raw (.pointer (some ⟨g, 0, none⟩))
  | .func f => .fn (.func f) [] []

theorem Agree.ev {W0 : World} {pl : Nat → Nat → Pl} {a : Act} {w : World} (h : Agree W0 pl e S a w) (x : Operand) : Rep (cxOf w pl S) (evD e x) (a.eval x) := by
  cases x with
  | tmp t =>
    simp only [evD, Act.eval]
    cases hd : e[t]? with
    | none => simp [List.getD, hd, Rep]
    | some d =>
      obtain ⟨v, h1, h2⟩ := h.env.get t d hd
      have : a.tmps.getD t undef = v := by
        rw [Array.getD_eq_getD_getElem?]
        have : a.tmps[t]? = some v := by rw [← Array.getElem?_toList]; exact h1
        rw [this]; rfl
      rw [this]
      simpa [List.getD, hd] using h2
  | const v => simp [evD, Act.eval, Rep]
  | global g => simp [evD, Act.eval, Rep]
  | func f =>
    simp only [evD, Act.eval, Rep]
    exact ⟨[], [], rfl, rfl, by simp only [RepL], rfl, by simp only [RepL]⟩

theorem Sk_cond {c : Operand} {x y : Code} {t : Bool} (hc : evD e c = .raw (.bool t)) (h1 : t = true → Sk A (.code x :: ks) e S) (h2 : t = false → Sk A (.code y :: ks) e S) :
    Sk A (.code (.cond c x y) :: ks) e S := by
  intro pl a w ha hx
  have hv := ha.ev c
  rw [hc] at hv
  simp only [Rep] at hv
  simp only [ExitK, Exit.then]
  refine wp_cond hv ?_
  cases t
  · have := h2 rfl pl a w ha hx
    simp only [ExitK, Exit.then] at this
    simpa using this
  · have := h1 rfl pl a w ha hx
    simp only [ExitK, Exit.then] at this
    simpa using this

/-- A loop, its measure in a ghost. -/
theorem wp_loop_ghost {P : Program} {Q : Exit → Act → World → Prop} {c : Code} (I : Nat → Act → World → Prop)
    (round : ∀ n a w, I n a w → c.wp P (Exit.then (fun a' w' => ∃ m, m < n ∧ I m a' w') Q) a w) (n : Nat) {a : Act} {w : World} (h₀ : I n a w) : (Code.loop c).wp P Q a w := by
  intro b k cs
  have key : ∀ n a w, I n a w → ∃ e a' w', Q e a' w' ∧ Arrives P (lone (b.at a (.code c :: .inLoop c :: k)) cs w) b k cs e a' w' := by
    intro n
    induction n using Nat.strongRecOn with
    | _ n ih =>
      intro a w hI
      obtain ⟨e, a₁, w₁, hq, harr⟩ := round n a w hI b (.inLoop c :: k) cs
      cases e with
      | normal =>
        obtain ⟨m, hlt, hI₁⟩ := hq
        obtain ⟨e₂, a₂, w₂, hq₂, harr₂⟩ := ih m hlt a₁ w₁ hI₁
        exact ⟨e₂, a₂, w₂, hq₂, .of_steps (Steps.trans harr (.one step_inLoop)) harr₂⟩
      | exit id => exact ⟨_, a₁, w₁, hq, .pass (x := .inLoop c) rfl (fun _ _ => .inl (by simp)) harr⟩
      | goto l => exact ⟨_, a₁, w₁, hq, .pass (x := .inLoop c) rfl (fun _ _ => .inl (by simp)) harr⟩
      | ret => exact ⟨_, a₁, w₁, hq, .pass (x := .inLoop c) rfl (fun _ _ => .inl (by simp)) harr⟩
      | panic ch => exact ⟨_, a₁, w₁, hq, .pass (x := .inLoop c) rfl (fun _ _ => .inl (by simp)) harr⟩
      | outgrown => exact ⟨_, a₁, w₁, hq, .pass (x := .inLoop c) rfl (fun _ _ => .inl (by simp)) harr⟩
  obtain ⟨e, a', w', hq, harr⟩ := key n a w h₀
  exact ⟨e, a', w', hq, .of_steps (.one step_loop) harr⟩

/-- One value may stand for another. -/
def DV.le : DV → DV → Prop
  | d, d' => d' = .junk ∨ d = d' ∨ (∃ sz es, d = .lst sz true es ∧ d' = .lst sz false es) ∨ (∃ sz, d = .raw (.slice none 0 0) ∧ d' = .lst sz false [])

theorem DV.le_rep {C : Cx} {d d' : DV} (h : d.le d') {v : Value} (r : Rep C d v) : Rep C d' v := by
  rcases h with rfl | rfl | ⟨sz, es, rfl, rfl⟩ | ⟨sz, rfl, rfl⟩
  · simp only [Rep]
  · exact r
  · simp only [Rep] at r ⊢
    obtain ⟨A, cap, hv, hle, _, hn, hr⟩ := r
    exact ⟨A, cap, hv, hle, by simp, hn, hr⟩
  · simp only [Rep] at r ⊢
    subst r
    exact ⟨none, 0, rfl, by simp, by simp, by simp, by simp⟩

def leL : List DV → List DV → Prop
  | [], [] => True
  | d :: ds, d' :: ds' => d.le d' ∧ leL ds ds'
  | _, _ => False

theorem leL_len : ∀ {ds ds' : List DV}, leL ds ds' → ds.length = ds'.length
  | [], [], _ => rfl
  | _ :: _, _ :: _, h => by simp only [leL] at h; simp [leL_len h.2]
  | [], _ :: _, h => by simp only [leL] at h
  | _ :: _, [], h => by simp only [leL] at h

theorem leL_rep {C : Cx} : ∀ {ds ds' : List DV} {vs : List Value}, leL ds ds' → RepL C ds vs → RepL C ds' vs
  | [], [], _, _, r => r
  | _ :: _, _ :: _, [], _, r => by simp only [RepL] at r
  | _ :: _, _ :: _, _ :: _, h, r => by
    simp only [leL] at h
    simp only [RepL] at r ⊢
    exact ⟨DV.le_rep h.1 r.1, leL_rep h.2 r.2⟩
  | [], _ :: _, _, h, _ => by simp only [leL] at h
  | _ :: _, [], _, h, _ => by simp only [leL] at h

theorem getElem?_of_take {α : Type} {l : List α} {n i : Nat} {x : α} (h : (l.take n)[i]? = some x) : l[i]? = some x := by
  rw [List.getElem?_take] at h
  split at h
  · exact h
  · cases h

/-- Objects at the store's end are forgotten: they never change any more. -/
theorem CxLe.forget (w : World) (pl : Nat → Nat → Pl) (S : List SO) (n : Nat) : CxLe (cxOf w pl S) (cxOf w pl (S.take n)) :=
  ⟨fun _ _ _ => rfl, fun b o h hm => ⟨h, fun ⟨i, o, g, hi, hg, hp⟩ => hm ⟨i, o, g, getElem?_of_take hi, hg, hp⟩⟩, fun _ c _ fr h => ⟨c, fr, h, rfl⟩⟩

theorem ObjOk.mono {C D : Cx} (h : CxLe C D) {i : Nat} {o : SO} (hu : ∀ g, o = .pend g → D.pl i g = .un) (hd : ∀ b, (∃ g, o.gen = some g ∧ C.pl i g = .blk b) → D.heap[b]? = C.heap[b]?) (r : ObjOk C i o) : ObjOk D i o := by
  cases o with
  | dead => trivial
  | pend g => exact hu g rfl
  | cells g cs =>
    obtain ⟨b, c, T, fr, hp, hh, ht, hl, hr⟩ := r
    exact ⟨b, c, T, fr, by rw [h.pl i g (by rw [hp]; simp)]; exact hp, by rw [hd b ⟨g, rfl, hp⟩]; exact hh, ht, hl, RepL.mono h cs _ hr⟩
  | row g sz cs =>
    rcases r with ⟨hp, r⟩ | ⟨b, c, T, fr, hp, hh, ht, hr⟩
    · exact .inl ⟨by rw [h.pl i g (by rw [hp]; simp)]; exact hp, r⟩
    · exact .inr ⟨b, c, T, fr, by rw [h.pl i g (by rw [hp]; simp)]; exact hp, by rw [hd b ⟨g, rfl, hp⟩]; exact hh, ht, RepLL.mono h sz cs _ hr⟩
  | other g o =>
    obtain ⟨b, hp, hh, ho⟩ := r
    exact ⟨b, by rw [h.pl i g (by rw [hp]; simp)]; exact hp, by rw [hd b ⟨g, rfl, hp⟩]; exact hh, ho⟩
  | map g es clock =>
    obtain ⟨b, ent, hp, hh, hl, h1, h2, h3⟩ := r
    exact ⟨b, ent, by rw [h.pl i g (by rw [hp]; simp)]; exact hp, by rw [hd b ⟨g, rfl, hp⟩]; exact hh, hl, RepL.mono h _ _ h1, RepL.mono h _ _ h2, h3⟩

theorem Good.forget {W0 : World} {pl : Nat → Nat → Pl} {w : World} (h : Good W0 pl S w) (n : Nat) : Good W0 pl (S.take n) w where
  below := h.below
  objs i o hi := (h.objs i o (getElem?_of_take hi)).mono (CxLe.forget w pl S n) (fun g hg => by have := h.objs i o (getElem?_of_take hi); rw [hg] at this; exact this) (fun _ _ => rfl)
  inj i j o o' g g' b hi hj := h.inj i j o o' g g' b (getElem?_of_take hi) (getElem?_of_take hj)
  high b hb := h.high b (by obtain ⟨i, o, g, hi, r⟩ := hb; exact ⟨i, o, g, getElem?_of_take hi, r⟩)
  fresh := h.fresh

/-- What is known may be forgotten: slots, and objects at the store's end. -/
theorem Agree.weaken {W0 : World} {pl : Nat → Nat → Pl} {a : Act} {w : World} (h : Agree W0 pl e S a w) {e' : List DV} (n : Nat) (he : leL e e') : Agree W0 pl e' (S.take n) a w :=
  ⟨h.len.trans (leL_len he), leL_rep he (RepL.mono (CxLe.forget w pl S n) _ _ h.env), h.good.forget n, h.defers⟩

theorem Sk_weaken {e' : List DV} (n : Nat) (he : leL e e') (h : Sk A ks e' (S.take n)) : Sk A ks e S :=
  fun pl a w ha hc => h pl a w (ha.weaken n he) (hc.trans (CxLe.forget w pl S n))

/-- A LOOP. x: what it has come to; I: what holds of it; st: the frame and the store at a round's head; mu: what goes down. -/
theorem Sk_loop {α : Type} (I : α → Prop) (st : α → List DV × List SO) (mu : α → Nat) (x0 : α) (h0 : I x0) {c : Code} (he : leL e (st x0).1) (n : Nat) (hS : S.take n = (st x0).2)
    (hb : ∀ x, I x → Sk A (.code c :: .lp (fun e' S' => ∃ x' n, I x' ∧ mu x' < mu x ∧ leL e' (st x').1 ∧ S'.take n = (st x').2) :: ks) (st x).1 (st x).2) :
    Sk A (.code (.loop c) :: ks) e S := by
  intro pl a w ha hc
  simp only [ExitK, Exit.then]
  refine wp_loop_ghost (fun m a w => ∃ x pl, I x ∧ mu x = m ∧ Agree A.W0 pl (st x).1 (st x).2 a w ∧ CxLe A.c0 (cxOf w pl (st x).2)) ?_ (mu x0)
    ⟨x0, pl, h0, rfl, hS ▸ ha.weaken n he, hS ▸ hc.trans (CxLe.forget w pl S n)⟩
  rintro m a w ⟨x, pl, hI, rfl, ha, hc⟩
  have := hb x hI pl a w ha hc
  simp only [ExitK] at this
  refine wp_mono this ?_
  intro ex a w hx
  cases ex with
  | normal =>
    obtain ⟨e', S', pl', ⟨x', n', hI', hlt, hle, hS'⟩, ha', hc'⟩ := hx
    exact ⟨mu x', hlt, x', pl', hI', rfl, hS' ▸ ha'.weaken n' hle, hS' ▸ hc'.trans (CxLe.forget w pl' S' n')⟩
  | _ => exact hx
end rules

/-- A function's judgement out of its body's. -/
theorem Ct_of {P : Program} {W0 : World} {f : FuncId} {args : List DV} {S : List SO} {post : Out → List SO → Prop} {fn : Func} {c : Code} (hf : P.funcs[f]? = some fn) (hb : fn.body = some c)
    {k : Nat} (hk : fn.ntmps - args.length = k) (h : ∀ c0, Sk ⟨P, W0, fn, c0, post⟩ [.code c] (args ++ List.replicate k .junk) S) : Ct P W0 f args S post := by
  intro pl w vs hg hl hr
  refine calls_of_wp hf hb ?_
  have := h (cxOf w pl S) pl { tmps := vs.toArray ++ Array.replicate (fn.ntmps - vs.toArray.size) undef, defers := [] } w ?_ (CxLe.refl _)
  · simp only [ExitK] at this
    refine wp_mono this ?_
    intro ex a w hx
    cases ex <;> exact hx
  · refine ⟨?_, ?_, hg, rfl⟩
    · simp [hl, ← hk]
    · simp only [Array.toList_append, Array.toList_replicate]
      refine RepL.append hr hl (RepL.of_get fun i d hd => ?_)
      rw [List.getElem?_replicate] at hd
      split at hd
      · cases hd
        refine ⟨undef, ?_, by simp only [Rep]⟩
        rw [List.getElem?_replicate, if_pos (by simp [hl, ← hk] at *; omega)]
      · cases hd
end Go.Dv
/-
  A region of operations over deep values, in the text's order; and: whatever order the machine draws, it comes to the same.
-/
namespace Go.Dv
set_option linter.unusedVariables false
open Go Go.RowKit

/-- What one operation comes to. -/
inductive OpR where
  | need (p : Prop) (d : DV)
  | rd (j : Nat) (h : SO → Option (Prop × DV))
  | wr (j : Nat) (h : SO → Option (Prop × SO × DV))
  | ap (j : Nat) (h : SO → Option (Prop × (Nat → SO × DV)))
  | al (p : Prop) (so : Nat → SO) (d : Nat → Nat → DV)
  | call (f : FuncId) (args : List DV)
  | pan (d : DV)
  | bad

def putD (e : List DV) (dst : Option Tmp) (d : DV) : List DV :=
  match dst with
  | some t => e.set t d
  | none => e

/-- May it run? (none: that isn't known.) -/
def wantD (arr : Array Oper) (e : List DV) (o : Oper) : Option Bool :=
  match o.guard with
  | none => some true
  | some (j, want) =>
    match (arr[j]?).bind (·.dst) with
    | none => some false
    | some t => match e[t]? with
      | some (.raw (.bool b)) => some (b == want)
      | some (.raw (.tuple _)) => some false
      | _ => none

def Ev (C : Cx) (e : List DV) (o : Oper) (r : Operand → Value) : Prop := ∀ x ∈ o.op.operands, Rep C (evD e x) (r x)

def IsVal (n : Next) (v : Value) : Prop := n = .value v ∨ (n = .skip ∧ v = undef)

/-- The operation does what OpR says. -/
def OpOk (P : Program) (W0 : World) (e : List DV) (o : Oper) : OpR → Prop
  | .need p d => p → ∀ (pl : Nat → Nat → Pl) (S : List SO) (w : World) (r : Operand → Value), Good W0 pl S w → Ev (cxOf w pl S) e o r →
      ∃ v, (execOp r o).run P w = .ok (.value v) w ∧ Rep (cxOf w pl S) d v
  | .rd j h => ∀ (so : SO) (p : Prop) (d : DV), h so = some (p, d) → p → ∀ (pl : Nat → Nat → Pl) (S : List SO) (w : World) (r : Operand → Value), Good W0 pl S w → S[j]? = some so → Ev (cxOf w pl S) e o r →
      ∃ v, (execOp r o).run P w = .ok (.value v) w ∧ Rep (cxOf w pl S) d v
  | .wr j h => ∀ (so : SO) (p : Prop) (so' : SO) (d : DV), h so = some (p, so', d) → p → ∀ (pl : Nat → Nat → Pl) (S : List SO) (w : World) (r : Operand → Value), Good W0 pl S w → S[j]? = some so → Ev (cxOf w pl S) e o r →
      ∃ n v w' pl', (execOp r o).run P w = .ok n w' ∧ IsVal n v ∧ Good W0 pl' (S.set j so') w' ∧ CxLe (cxOf w pl S) (cxOf w' pl' (S.set j so')) ∧ Rep (cxOf w' pl' (S.set j so')) d v
  | .ap j h => ∀ (so : SO) (p : Prop) (k : Nat → SO × DV), h so = some (p, k) → p → ∀ (pl : Nat → Nat → Pl) (S : List SO) (w : World) (r : Operand → Value), Good W0 pl S w → S[j]? = some so → Ev (cxOf w pl S) e o r →
      ∃ n v w' pl' g, (execOp r o).run P w = .ok n w' ∧ IsVal n v ∧ Good W0 pl' (S.set j (k g).1) w' ∧ CxLe (cxOf w pl S) (cxOf w' pl' (S.set j (k g).1)) ∧ Rep (cxOf w' pl' (S.set j (k g).1)) (k g).2 v
  | .al p so d => p → ∀ (j g : Nat) (pl : Nat → Nat → Pl) (S : List SO) (w : World) (r : Operand → Value), Good W0 pl S w → S[j]? = some (.pend g) → Ev (cxOf w pl S) e o r →
      ∃ v w' pl', (execOp r o).run P w = .ok (.value v) w' ∧ Good W0 pl' (S.set j (so g)) w' ∧ CxLe (cxOf w pl S) (cxOf w' pl' (S.set j (so g))) ∧ Rep (cxOf w' pl' (S.set j (so g))) (d j g) v
  | .call f args => ∀ (pl : Nat → Nat → Pl) (S : List SO) (w : World) (r : Operand → Value), Good W0 pl S w → Ev (cxOf w pl S) e o r →
      ∃ vs : List Value, (execOp r o).run P w = .ok (.enter f vs.toArray) w ∧ vs.length = args.length ∧ RepL (cxOf w pl S) args vs
  | .pan d => ∀ (pl : Nat → Nat → Pl) (S : List SO) (w : World) (r : Operand → Value), Good W0 pl S w → Ev (cxOf w pl S) e o r →
      ∃ v, (execOp r o).run P w = .halt (.panic v) w ∧ Rep (cxOf w pl S) d v
  | .bad => True

inductive CK where
  | pure | ro | gen
inductive Cl where
  | rd (j : Nat)
  | wr (j : Nat)
  | ap
  | call (k : CK)

def compat : Cl → Cl → Prop
  | .rd _, .rd _ => True
  | .rd i, .wr j | .wr i, .rd j | .wr i, .wr j => i ≠ j
  | .call .pure, .rd _ | .call .pure, .wr _ | .rd _, .call .pure | .wr _, .call .pure => True
  | .call .ro, .rd _ | .rd _, .call .ro => True
  | _, _ => False

/-- How a region is gone through. draw: the machine draws the order; un: pairs of operations that it may do in either order, and that might touch the same; mine: of which operations what was touched is kept. -/
structure Fl where
  draw : Bool
  un : List (Nat × Nat)

def chk (F : Fl) (tr : List (Nat × Cl)) (i : Nat) (c : Cl) : Prop := ∀ x ∈ tr, ((x.1, i) ∈ F.un ∨ (i, x.1) ∈ F.un) → compat x.2 c

def rcd (F : Fl) (tr : List (Nat × Cl)) (i : Nat) (c : Cl) : List (Nat × Cl) := if F.un = [] then [] else (i, c) :: tr

def CtP (P : Program) (W0 : World) (f : FuncId) (args : List DV) (S : List SO) (q : DV → Prop) : Prop := Ct P W0 f args S fun o S' => S' = S ∧ ∃ d, o = .ret d ∧ q d

/-- A call, by one of three kinds of judgements. -/
def CallD (P : Program) (W0 : World) (draw : Bool) (f : FuncId) (args : List DV) (S : List SO) (ok : CK → Prop) (N : CK → DV → List SO → Prop) (KP : DV → List SO → Prop) : Prop :=
  (∃ q : DV → Prop, (∀ S2, CtP P W0 f args S2 q) ∧ (∃ d, q d) ∧ ok .pure ∧ ∀ d, q d → N .pure d S) ∨
  (∃ q : DV → Prop, CtP P W0 f args S q ∧ (∃ d, q d) ∧ ok .ro ∧ ∀ d, q d → N .ro d S) ∨
  (∃ post : Out → List SO → Prop, Ct P W0 f args S post ∧ (draw = true → ∃ d S', post (.ret d) S') ∧ ok .gen ∧ (∀ d S', post (.ret d) S' → N .gen d S') ∧ ∀ d S', post (.pan d) S' → KP d S')

/-- The how manieth of a list. -/
def ord : List Nat → Nat → Nat
  | [], _ => 0
  | x :: l, i => if x = i then 0 else ord l i + 1

structure Rg where
  P : Program
  W0 : World
  opR : (Operand → DV) → Oper → OpR
  arr : Array Oper
  F : Fl
  base : Nat
  al : List Nat
  K : List DV → List SO → Prop
  KP : DV → List SO → Prop

/-- Where the operation's new object comes: one place for each operation that may make one. -/
def slotOf (R : Rg) (i : Nat) : Nat := R.base + ord R.al i

def WD (R : Rg) : List (Nat × Cl) → List Nat → List DV → List SO → Prop
  | _, [], e, S => R.K e S
  | tr, i :: l, e, S =>
    match R.arr[i]? with
    | none => WD R tr l e S
    | some o =>
      match wantD R.arr e o with
      | none => False
      | some false => WD R tr l (putD e o.dst (.raw undef)) S
      | some true =>
        match R.opR (evD e) o with
        | .need p d => p ∧ WD R tr l (putD e o.dst d) S
        | .rd j h => match (S[j]?).bind h with
          | none => False
          | some (p, d) => p ∧ chk R.F tr i (.rd j) ∧ WD R (rcd R.F tr i (.rd j)) l (putD e o.dst d) S
        | .wr j h => match (S[j]?).bind h with
          | none => False
          | some (p, so', d) => p ∧ chk R.F tr i (.wr j) ∧ WD R (rcd R.F tr i (.wr j)) l (putD e o.dst d) (S.set j so')
        | .ap j h => match (S[j]?).bind h with
          | none => False
          | some (p, k) => p ∧ chk R.F tr i .ap ∧ ∀ g, WD R (rcd R.F tr i .ap) l (putD e o.dst (k g).2) (S.set j (k g).1)
        | .al p so d => match S[slotOf R i]? with
          | some (.pend g) => p ∧ chk R.F tr i (.wr (slotOf R i)) ∧ WD R (rcd R.F tr i (.wr (slotOf R i))) l (putD e o.dst (d (slotOf R i) g)) (S.set (slotOf R i) (so g))
          | _ => False
        | .pan d => R.F.draw = false ∧ R.KP d S
        | .call f args => CallD R.P R.W0 R.F.draw f args S (fun k => chk R.F tr i (.call k)) (fun k d S' => WD R (rcd R.F tr i (.call k)) l (putD e o.dst d) S') R.KP
        | .bad => False

theorem RepL_put {C : Cx} {e : List DV} {a : Act} (h : RepL C e a.tmps.toList) {dst : Option Tmp} {d : DV} {v : Value} (hd : Rep C d v) : RepL C (putD e dst d) (a.put dst v).tmps.toList := by
  cases dst with
  | none => exact h
  | some t => simpa [putD, Act.put] using RepL.set h t hd

theorem Agree.put {W0 : World} {pl : Nat → Nat → Pl} {e : List DV} {S : List SO} {a : Act} {w : World} (h : Agree W0 pl e S a w) {pl' : Nat → Nat → Pl} {S' : List SO} {w' : World}
    (hg : Good W0 pl' S' w') (hc : CxLe (cxOf w pl S) (cxOf w' pl' S')) (dst : Option Tmp) {d : DV} {v : Value} (hd : Rep (cxOf w' pl' S') d v) : Agree W0 pl' (putD e dst d) S' (a.put dst v) w' where
  len := by cases dst <;> simp [putD, Act.put, h.len]
  env := RepL_put (RepL.mono hc _ _ h.env) hd
  good := hg
  defers := by cases dst <;> exact h.defers

theorem Agree.want {W0 : World} {pl : Nat → Nat → Pl} {e : List DV} {S : List SO} {a : Act} {w : World} (h : Agree W0 pl e S a w) {arr : Array Oper} {o : Oper} {b : Bool} (hw : wantD arr e o = some b) :
    Region.wanted o (yielded arr a.tmps) = b := by
  unfold wantD at hw
  unfold Region.wanted
  cases hg : o.guard with
  | none => simp only [hg] at hw ⊢; simpa using hw
  | some jw =>
    obtain ⟨j, want⟩ := jw
    simp only [hg] at hw ⊢
    unfold yielded
    cases hd : (arr[j]?).bind (·.dst) with
    | none => simp only [hd] at hw; simp only [Option.bind_none]; cases hw; rfl
    | some t =>
      simp only [hd] at hw
      simp only [Option.bind_some]
      cases he : e[t]? with
      | none => simp [he] at hw
      | some d =>
        obtain ⟨v, h1, h2⟩ := h.env.get t d he
        have ht : a.tmps[t]? = some v := by rw [← Array.getElem?_toList]; exact h1
        rw [ht]
        rw [he] at hw
        cases d with
        | raw u =>
          simp only [Rep] at h2
          subst h2
          cases v with
          | bool c => simp only [Option.some.injEq] at hw; subst hw; simp only; cases c <;> cases want <;> rfl
          | tuple _ => simp only [Option.some.injEq] at hw; subst hw; rfl
          | _ => cases hw
        | _ => cases hw

/-- SOUND: one operation. -/
theorem WD_step (R : Rg) (hop : ∀ e o, OpOk R.P R.W0 e o (R.opR (evD e) o)) {c0 : Cx} {Q : Exit → Act → World → Prop}
    (hKP : ∀ pl d S a w p, R.KP d S → Good R.W0 pl S w → a.defers = [] → Rep (cxOf w pl S) d p.v → p.recovered = false → p.goexit = false → CxLe c0 (cxOf w pl S) → Q (.panic [p]) a w)
    {K : Act → World → Prop} {i : Nat} {l : List Nat} {tr : List (Nat × Cl)} {e : List DV} {S : List SO} {pl : Nat → Nat → Pl} {a : Act} {w : World} (h : WD R tr (i :: l) e S) (ha : Agree R.W0 pl e S a w) (hc : CxLe c0 (cxOf w pl S))
    (ih : ∀ tr' e' S' pl' a' w', (R.F.un = [] → tr = [] → tr' = []) → WD R tr' l e' S' → Agree R.W0 pl' e' S' a' w' → CxLe c0 (cxOf w' pl' S') → K a' w') : wpOp R.P R.arr Q i K a w := by
    have hrc : ∀ c, R.F.un = [] → tr = [] → rcd R.F tr i c = [] := by intro c hu _; unfold rcd; rw [if_pos hu]
    simp only [WD] at h
    simp only [wpOp]
    cases ho : R.arr[i]? with
    | none => simp only [ho] at h ⊢; exact ih _ _ _ _ _ _ (fun _ h => h) h ha hc
    | some o =>
      simp only [ho] at h ⊢
      have hop := hop e o
      have hev : Ev (cxOf w pl S) e o a.eval := fun x _ => ha.ev x
      cases hw : wantD R.arr e o with
      | none => simp [hw] at h
      | some b =>
        simp only [hw] at h
        rw [ha.want hw]
        cases b with
        | false =>
          simp only [Bool.false_eq_true, if_false]
          exact ih _ _ _ _ _ _ (fun _ h => h) h (ha.put ha.good (CxLe.refl _) o.dst (by simp only [Rep])) hc
        | true =>
          simp only [if_true]
          left
          simp only [Oper.wp]
          cases hr : R.opR (evD e) o with
          | need p d =>
            simp only [hr] at h hop
            obtain ⟨v, h1, h2⟩ := hop h.1 pl S w a.eval ha.good hev
            rw [h1, Oper.upon_value]
            exact ih _ _ _ _ _ _ (fun _ h => h) h.2 (ha.put ha.good (CxLe.refl _) o.dst h2) hc
          | rd j k =>
            simp only [hr] at h hop
            cases hb : (S[j]?).bind k with
            | none => simp [hb] at h
            | some x =>
              obtain ⟨p, d⟩ := x
              simp only [hb] at h
              obtain ⟨so, hs, hk⟩ := Option.bind_eq_some_iff.1 hb
              obtain ⟨v, h1, h2⟩ := hop so p d hk h.1 pl S w a.eval ha.good hs hev
              rw [h1, Oper.upon_value]
              exact ih _ _ _ _ _ _ (hrc _) h.2.2 (ha.put ha.good (CxLe.refl _) o.dst h2) hc
          | wr j k =>
            simp only [hr] at h hop
            cases hb : (S[j]?).bind k with
            | none => simp [hb] at h
            | some x =>
              obtain ⟨p, so', d⟩ := x
              simp only [hb] at h
              obtain ⟨so, hs, hk⟩ := Option.bind_eq_some_iff.1 hb
              obtain ⟨n, v, w', pl', h1, hn, hg, hle, hd⟩ := hop so p so' d hk h.1 pl S w a.eval ha.good hs hev
              rw [h1]
              rcases hn with rfl | ⟨rfl, rfl⟩
              · rw [Oper.upon_value]
                exact ih _ _ _ _ _ _ (hrc _) h.2.2 (ha.put hg hle o.dst hd) (hc.trans hle)
              · rw [Oper.upon_skip]
                exact ih _ _ _ _ _ _ (hrc _) h.2.2 (ha.put hg hle o.dst hd) (hc.trans hle)
          | ap j k =>
            simp only [hr] at h hop
            cases hb : (S[j]?).bind k with
            | none => simp [hb] at h
            | some x =>
              obtain ⟨p, f⟩ := x
              simp only [hb] at h
              obtain ⟨so, hs, hk⟩ := Option.bind_eq_some_iff.1 hb
              obtain ⟨n, v, w', pl', g, h1, hn, hg, hle, hd⟩ := hop so p f hk h.1 pl S w a.eval ha.good hs hev
              rw [h1]
              rcases hn with rfl | ⟨rfl, rfl⟩
              · rw [Oper.upon_value]
                exact ih _ _ _ _ _ _ (hrc _) (h.2.2 g) (ha.put hg hle o.dst hd) (hc.trans hle)
              · rw [Oper.upon_skip]
                exact ih _ _ _ _ _ _ (hrc _) (h.2.2 g) (ha.put hg hle o.dst hd) (hc.trans hle)
          | al p so d =>
            simp only [hr] at h hop
            split at h
            · rename_i g hs
              obtain ⟨v, w', pl', h1, hg, hle, hd⟩ := hop h.1 _ g pl S w a.eval ha.good hs hev
              rw [h1, Oper.upon_value]
              exact ih _ _ _ _ _ _ (hrc _) h.2.2 (ha.put hg hle o.dst hd) (hc.trans hle)
            · exact h.elim
          | pan d =>
            simp only [hr] at h hop
            obtain ⟨v, h1, h2⟩ := hop pl S w a.eval ha.good hev
            rw [h1, Oper.upon_panic]
            exact hKP pl d S a w _ h.2 ha.good ha.defers h2 rfl rfl hc
          | call f args =>
            simp only [hr] at h hop
            obtain ⟨vs, h1, h2, h3⟩ := hop pl S w a.eval ha.good hev
            rw [h1, Oper.upon_enter]
            rcases h with ⟨q, hq, _, _, h⟩ | ⟨q, hq, _, _, h⟩ | ⟨post, hq, _, _, h, hp⟩
            · refine (hq S pl w vs ha.good h2 h3).mono ?_
              rintro en w' ⟨ou, S', pl', ⟨rfl, d, rfl, hqd⟩, hg, hle, hrep⟩
              cases en with
              | returned v => exact ih _ _ _ _ _ _ (hrc _) (h d hqd) (ha.put hg hle o.dst hrep) (hc.trans hle)
              | panicked ch => simp only [OutRep] at hrep
              | outgrown => simp only [OutRep] at hrep
            · refine (hq pl w vs ha.good h2 h3).mono ?_
              rintro en w' ⟨ou, S', pl', ⟨rfl, d, rfl, hqd⟩, hg, hle, hrep⟩
              cases en with
              | returned v => exact ih _ _ _ _ _ _ (hrc _) (h d hqd) (ha.put hg hle o.dst hrep) (hc.trans hle)
              | panicked ch => simp only [OutRep] at hrep
              | outgrown => simp only [OutRep] at hrep
            · refine (hq pl w vs ha.good h2 h3).mono ?_
              rintro en w' ⟨ou, S', pl', hpost, hg, hle, hrep⟩
              cases ou with
              | ret d =>
                cases en with
                | returned v => exact ih _ _ _ _ _ _ (hrc _) (h d S' hpost) (ha.put hg hle o.dst hrep) (hc.trans hle)
                | panicked ch => simp only [OutRep] at hrep
                | outgrown => simp only [OutRep] at hrep
              | pan d =>
                cases en with
                | returned v => simp only [OutRep] at hrep
                | panicked ch =>
                  cases ch with
                  | nil => simp only [OutRep] at hrep
                  | cons p t =>
                    cases t with
                    | nil => simp only [OutRep] at hrep; exact hKP pl' d S' a w' p (hp d S' hpost) hg ha.defers hrep.1 hrep.2.1 hrep.2.2 (hc.trans hle)
                    | cons _ _ => simp only [OutRep] at hrep
                | outgrown => simp only [OutRep] at hrep
          | bad => simp only [hr] at h

/-- SOUND, in whatever order l. -/
theorem WD_sound (R : Rg) (hop : ∀ e o, OpOk R.P R.W0 e o (R.opR (evD e) o)) {c0 : Cx} {Q : Exit → Act → World → Prop}
    (hK : ∀ pl e S a w, R.K e S → Agree R.W0 pl e S a w → CxLe c0 (cxOf w pl S) → Q .normal a w)
    (hKP : ∀ pl d S a w p, R.KP d S → Good R.W0 pl S w → a.defers = [] → Rep (cxOf w pl S) d p.v → p.recovered = false → p.goexit = false → CxLe c0 (cxOf w pl S) → Q (.panic [p]) a w) :
    ∀ (l : List Nat) (tr : List (Nat × Cl)) (e : List DV) (S : List SO) (pl : Nat → Nat → Pl) (a : Act) (w : World), WD R tr l e S → Agree R.W0 pl e S a w → CxLe c0 (cxOf w pl S) → wpOps R.P R.arr Q l a w
  | [], tr, e, S, pl, a, w, h, ha, hc => by
    simp only [WD] at h
    simpa only [wpOps] using hK pl e S a w h ha hc
  | i :: l, tr, e, S, pl, a, w, h, ha, hc => by
    rw [wpOps_cons]
    exact WD_step R hop hKP h ha hc fun tr' e' S' pl' a' w' _ => WD_sound R hop hK hKP l tr' e' S' pl' a' w'
end Go.Dv
/-
  A region of operations over deep values: whatever order the machine draws, it comes to what the text's order comes to.
-/
namespace Go.Dv
set_option linter.unusedVariables false
open Go Go.RowKit

/-- What an operation comes to, its guard looked at. -/
def eff (R : Rg) (e : List DV) (i : Nat) : Option (Option Tmp × OpR) :=
  match R.arr[i]? with
  | none => some (none, .need True .junk)
  | some o => match wantD R.arr e o with
    | none => none
    | some false => some (o.dst, .need True (.raw undef))
    | some true => some (o.dst, R.opR (evD e) o)

/-- What a step that isn't a call comes to: its condition, its value, what it writes. -/
def DetS (R : Rg) (i : Nat) (S : List SO) : OpR → Option (Prop × DV × Option (Nat × SO))
  | .need p d => some (p, d, none)
  | .rd j h => ((S[j]?).bind h).map fun k => (k.1, k.2, none)
  | .wr j h => ((S[j]?).bind h).map fun k => (k.1, k.2.2, some (j, k.2.1))
  | .al p so d => match S[slotOf R i]? with | some (.pend g) => some (p, d (slotOf R i) g, some (slotOf R i, so g)) | _ => none
  | _ => none

def clO (R : Rg) (i : Nat) : OpR → Option Cl
  | .rd j _ => some (.rd j)
  | .wr j _ => some (.wr j)
  | .al .. => some (.wr (slotOf R i))
  | _ => none

def appU (u : Option (Nat × SO)) (S : List SO) : List SO := match u with | none => S | some (j, o) => S.set j o
def chkO (F : Fl) (tr : List (Nat × Cl)) (i : Nat) (c : Option Cl) : Prop := ∀ k, c = some k → chk F tr i k
def rcdO (F : Fl) (tr : List (Nat × Cl)) (i : Nat) (c : Option Cl) : List (Nat × Cl) := match c with | none => tr | some k => rcd F tr i k

def StepP (R : Rg) (tr : List (Nat × Cl)) (i : Nat) (e : List DV) (S : List SO) (dst : Option Tmp) (N : List (Nat × Cl) → List DV → List SO → Prop) (r : OpR) : Prop :=
  match r with
  | .call f args => CallD R.P R.W0 R.F.draw f args S (fun k => chk R.F tr i (.call k)) (fun k d S' => N (rcd R.F tr i (.call k)) (putD e dst d) S') R.KP
  | .ap j h => chk R.F tr i .ap ∧ ∃ p k, (S[j]?).bind h = some (p, k) ∧ p ∧ ∀ g, N (rcd R.F tr i .ap) (putD e dst (k g).2) (S.set j (k g).1)
  | r => ∃ p d u, DetS R i S r = some (p, d, u) ∧ p ∧ chkO R.F tr i (clO R i r) ∧ N (rcdO R.F tr i (clO R i r)) (putD e dst d) (appU u S)

theorem StepP_need {R : Rg} {tr : List (Nat × Cl)} {i : Nat} {e : List DV} {S : List SO} {dst : Option Tmp} {N : List (Nat × Cl) → List DV → List SO → Prop} {p : Prop} {d : DV} :
    StepP R tr i e S dst N (.need p d) ↔ p ∧ N tr (putD e dst d) S := by
  constructor
  · rintro ⟨p', d', u, h1, h2, h3, h4⟩
    simp only [DetS, Option.some.injEq, Prod.mk.injEq] at h1
    obtain ⟨rfl, rfl, rfl⟩ := h1
    exact ⟨h2, h4⟩
  · exact fun h => ⟨p, d, none, rfl, h.1, fun k hk => (by cases hk), h.2⟩

theorem WD_cons (R : Rg) (hd : R.F.draw = true) (tr : List (Nat × Cl)) (i : Nat) (l : List Nat) (e : List DV) (S : List SO) :
    WD R tr (i :: l) e S ↔ ∃ dst r, eff R e i = some (dst, r) ∧ StepP R tr i e S dst (fun tr' e' S' => WD R tr' l e' S') r := by
  simp only [WD, eff]
  cases R.arr[i]? with
  | none =>
    constructor
    · exact fun h => ⟨none, _, rfl, StepP_need.2 ⟨trivial, h⟩⟩
    · rintro ⟨dst, r, he, h⟩
      cases he
      exact (StepP_need.1 h).2
  | some o =>
    simp only
    cases wantD R.arr e o with
    | none => simp
    | some b =>
      cases b with
      | false =>
        constructor
        · exact fun h => ⟨_, _, rfl, StepP_need.2 ⟨trivial, h⟩⟩
        · rintro ⟨dst, r, he, h⟩
          cases he
          exact (StepP_need.1 h).2
      | true =>
        simp only [Option.some.injEq, Prod.mk.injEq]
        constructor
        · intro h
          refine ⟨_, _, ⟨rfl, rfl⟩, ?_⟩
          cases hr : R.opR (evD e) o with
          | need p d => simp only [hr] at h; exact ⟨p, d, none, rfl, h.1, by simp [chkO, clO], h.2⟩
          | rd j k =>
            simp only [hr] at h
            cases hb : (S[j]?).bind k with
            | none => simp [hb] at h
            | some x => simp only [hb] at h; exact ⟨x.1, x.2, none, by simp [DetS, hb], h.1, by simpa [chkO, clO] using h.2.1, h.2.2⟩
          | wr j k =>
            simp only [hr] at h
            cases hb : (S[j]?).bind k with
            | none => simp [hb] at h
            | some x => simp only [hb] at h; exact ⟨x.1, x.2.2, some (j, x.2.1), by simp [DetS, hb], h.1, by simpa [chkO, clO] using h.2.1, h.2.2⟩
          | ap j k =>
            simp only [hr] at h
            cases hb : (S[j]?).bind k with
            | none => simp [hb] at h
            | some x => simp only [hb] at h; exact ⟨h.2.1, x.1, x.2, hb, h.1, h.2.2⟩
          | al p so d =>
            simp only [hr] at h
            split at h
            · rename_i g h1; exact ⟨p, _, some (_, _), by simp only [DetS, h1], h.1, by simpa [chkO, clO] using h.2.1, h.2.2⟩
            · exact h.elim
          | call f args => simp only [hr] at h ⊢; exact h
          | pan d => simp only [hr] at h; rw [hd] at h; exact absurd h.1 (by simp)
          | bad => simp [hr] at h
        · rintro ⟨dst, r, ⟨rfl, rfl⟩, h⟩
          cases hr : R.opR (evD e) o with
          | need p d => rw [hr] at h; obtain ⟨p', d', u, h1, h2, h3, h4⟩ := h; simp only [DetS, Option.some.injEq, Prod.mk.injEq] at h1; obtain ⟨rfl, rfl, rfl⟩ := h1; exact ⟨h2, h4⟩
          | rd j k =>
            rw [hr] at h; obtain ⟨p', d', u, h1, h2, h3, h4⟩ := h
            simp only [DetS, Option.map_eq_some_iff, Prod.mk.injEq] at h1
            obtain ⟨x, hb, rfl, rfl, rfl⟩ := h1
            simp only [hb]
            exact ⟨h2, h3 _ rfl, h4⟩
          | wr j k =>
            rw [hr] at h; obtain ⟨p', d', u, h1, h2, h3, h4⟩ := h
            simp only [DetS, Option.map_eq_some_iff, Prod.mk.injEq] at h1
            obtain ⟨x, hb, rfl, rfl, rfl⟩ := h1
            simp only [hb]
            exact ⟨h2, h3 _ rfl, h4⟩
          | ap j k =>
            rw [hr] at h
            obtain ⟨h1, p, f, hb, h2, h3⟩ := h
            simp only [hb]
            exact ⟨h2, h1, h3⟩
          | al p so d =>
            rw [hr] at h; obtain ⟨p', d', u, h1, h2, h3, h4⟩ := h
            simp only [DetS] at h1
            split at h1
            · rename_i g hg
              simp only [Option.some.injEq, Prod.mk.injEq] at h1
              obtain ⟨rfl, rfl, rfl⟩ := h1
              simp only [hg]
              exact ⟨h2, h3 _ rfl, h4⟩
            · cases h1
          | call f args => rw [hr] at h; exact h
          | pan d => rw [hr] at h; obtain ⟨p', d', u, h1, _⟩ := h; simp [DetS] at h1
          | bad => rw [hr] at h; obtain ⟨p', d', u, h1, _⟩ := h; simp [DetS] at h1

theorem CallD_mono {P : Program} {W0 : World} {draw : Bool} {f : FuncId} {args : List DV} {S : List SO} {ok ok' : CK → Prop} {N N' : CK → DV → List SO → Prop} {KP : DV → List SO → Prop}
    (h : CallD P W0 draw f args S ok N KP) (hok : ∀ k, ok k → ok' k) (hN : ∀ k d S', N k d S' → N' k d S') : CallD P W0 draw f args S ok' N' KP := by
  rcases h with ⟨q, h1, h2, h3, h4⟩ | ⟨q, h1, h2, h3, h4⟩ | ⟨q, h1, h2, h3, h4, h5⟩
  · exact .inl ⟨q, h1, h2, hok _ h3, fun d hd => hN _ _ _ (h4 d hd)⟩
  · exact .inr (.inl ⟨q, h1, h2, hok _ h3, fun d hd => hN _ _ _ (h4 d hd)⟩)
  · exact .inr (.inr ⟨q, h1, h2, hok _ h3, fun d S' hd => hN _ _ _ (h4 d S' hd), h5⟩)

theorem chk_iff {F : Fl} {tr tr' : List (Nat × Cl)} (h : ∀ x, x ∈ tr ↔ x ∈ tr') {i : Nat} {c : Cl} : chk F tr i c ↔ chk F tr' i c :=
  ⟨fun k x hx => k x ((h x).2 hx), fun k x hx => k x ((h x).1 hx)⟩

theorem rcd_iff {F : Fl} {tr tr' : List (Nat × Cl)} (h : ∀ x, x ∈ tr ↔ x ∈ tr') {i : Nat} {c : Cl} : ∀ x, x ∈ rcd F tr i c ↔ x ∈ rcd F tr' i c := by
  intro x
  unfold rcd
  split
  · rfl
  · simp [h]

theorem rcdO_iff {F : Fl} {tr tr' : List (Nat × Cl)} (h : ∀ x, x ∈ tr ↔ x ∈ tr') {i : Nat} {c : Option Cl} : ∀ x, x ∈ rcdO F tr i c ↔ x ∈ rcdO F tr' i c := by
  cases c with
  | none => exact h
  | some c => exact rcd_iff h

theorem StepP_mono {R : Rg} {tr tr' : List (Nat × Cl)} (ht : ∀ x, x ∈ tr ↔ x ∈ tr') {i : Nat} {e : List DV} {S : List SO} {dst : Option Tmp} {N N' : List (Nat × Cl) → List DV → List SO → Prop}
    (hN : ∀ t t' d S, (R.F.un = [] → tr = [] → t = []) → (∀ x, x ∈ t ↔ x ∈ t') → N t (putD e dst d) S → N' t' (putD e dst d) S) {r : OpR} (h : StepP R tr i e S dst N r) : StepP R tr' i e S dst N' r := by
  have hrc : ∀ c, R.F.un = [] → tr = [] → rcd R.F tr i c = [] := by intro c hu _; unfold rcd; rw [if_pos hu]
  have hrcO : ∀ c, R.F.un = [] → tr = [] → rcdO R.F tr i c = [] := by intro c hu ht; cases c with | none => exact ht | some c => exact hrc c hu ht
  have det : (∃ p d u, DetS R i S r = some (p, d, u) ∧ p ∧ chkO R.F tr i (clO R i r) ∧ N (rcdO R.F tr i (clO R i r)) (putD e dst d) (appU u S)) →
      ∃ p d u, DetS R i S r = some (p, d, u) ∧ p ∧ chkO R.F tr' i (clO R i r) ∧ N' (rcdO R.F tr' i (clO R i r)) (putD e dst d) (appU u S) := by
    rintro ⟨p, d, u, h1, h2, h3, h4⟩
    exact ⟨p, d, u, h1, h2, fun k hk => (chk_iff ht).1 (h3 k hk), hN _ _ _ _ (hrcO _) (rcdO_iff ht) h4⟩
  cases r with
  | call f args =>
    simp only [StepP] at h ⊢
    exact CallD_mono h (fun k hk => (chk_iff ht).1 hk) (fun k d S' hn => hN _ _ _ _ (hrc _) (rcd_iff ht) hn)
  | ap j k =>
    simp only [StepP] at h ⊢
    obtain ⟨h0, p, k', h1, h2, h3⟩ := h; exact ⟨(chk_iff ht).1 h0, p, k', h1, h2, fun g => hN _ _ _ _ (hrc _) (rcd_iff ht) (h3 g)⟩
  | _ => exact det h

theorem WD_trace (R : Rg) (hd : R.F.draw = true) : ∀ (l : List Nat) (tr tr' : List (Nat × Cl)) (e : List DV) (S : List SO), (∀ x, x ∈ tr ↔ x ∈ tr') → WD R tr l e S → WD R tr' l e S
  | [], _, _, _, _, _, h => by simpa only [WD] using h
  | i :: l, tr, tr', e, S, ht, h => by
    rw [WD_cons R hd] at h ⊢
    obtain ⟨dst, r, he, h⟩ := h
    exact ⟨dst, r, he, StepP_mono ht (fun t t' d S _ hx hn => WD_trace R hd l t t' _ S hx hn) h⟩

def locOk (R : Rg) : Prop := ∀ ev ev' o, (∀ x ∈ o.op.operands, ev x = ev' x) → R.opR ev o = R.opR ev' o

theorem evD_put {e : List DV} {dst : Option Tmp} {d : DV} {x : Operand} (h : ∀ t, dst = some t → x ≠ .tmp t) : evD (putD e dst d) x = evD e x := by
  cases dst with
  | none => rfl
  | some t =>
    cases x with
    | tmp u =>
      have hne : t ≠ u := fun he => h t rfl (he ▸ rfl)
      simp [evD, putD, List.getD, List.getElem?_set_ne hne]
    | _ => rfl

theorem putD_comm (e : List DV) {x y : Option Tmp} (d f : DV) (h : ∀ t, x = some t → y ≠ some t) : putD (putD e x d) y f = putD (putD e y f) x d := by
  cases x with
  | none => rfl
  | some t =>
    cases y with
    | none => rfl
    | some u =>
      have hne : t ≠ u := fun he => h t rfl (he ▸ rfl)
      simp only [putD]
      exact List.set_comm _ _ hne

theorem eff_put {R : Rg} (hloc : locOk R) {e : List DV} {dst : Option Tmp} {d : DV} {j : Nat} {o : Oper} (ho : R.arr[j]? = some o) (h : ∀ t, dst = some t → t ∉ o.looksAt R.arr) :
    eff R (putD e dst d) j = eff R e j := by
  have hops : ∀ x ∈ o.op.operands, evD (putD e dst d) x = evD e x := by
    intro x hx
    refine evD_put fun t ht hxt => h t ht ?_
    subst hxt
    unfold Oper.looksAt
    refine List.mem_append_left _ (List.mem_filterMap.2 ⟨.tmp t, by simpa using hx, rfl⟩)
  have hw : wantD R.arr (putD e dst d) o = wantD R.arr e o := by
    unfold wantD
    cases hg : o.guard with
    | none => rfl
    | some jw =>
      obtain ⟨g, want⟩ := jw
      simp only
      cases hd : (R.arr[g]?).bind (·.dst) with
      | none => rfl
      | some t =>
        simp only
        cases dst with
        | none => rfl
        | some u =>
          have hne : u ≠ t := by
            intro hut
            subst hut
            refine h u rfl ?_
            unfold Oper.looksAt
            refine List.mem_append_right _ ?_
            simp [hg, hd]
          simp only [putD]
          rw [List.getElem?_set_ne hne]
  unfold eff
  simp only [ho, hw]
  cases wantD R.arr e o with
  | none => rfl
  | some b => cases b <;> simp [hloc _ _ o hops]

theorem mem_rcd {F : Fl} (hne : F.un ≠ []) {tr : List (Nat × Cl)} {i : Nat} {c : Cl} : (i, c) ∈ rcd F tr i c := by
  unfold rcd; rw [if_neg hne]; simp

theorem chk_of_rcd {F : Fl} {tr : List (Nat × Cl)} {i j : Nat} {c d : Cl} (ht : F.un = [] → tr = []) (h : chk F (rcd F tr i c) j d) : chk F tr j d := by
  intro x hx
  refine h x ?_
  unfold rcd
  split
  · rename_i hn; rw [ht hn] at hx; exact absurd hx (by simp)
  · simp [hx]

theorem compat_symm : ∀ {c d : Cl}, compat c d → compat d c := by
  intro c d h
  cases c with
  | rd i => cases d with
    | rd j => trivial
    | wr j => exact fun e => h e.symm
    | ap => exact h
    | call k => cases k <;> first | trivial | exact h
  | wr i => cases d with
    | rd j => exact fun e => h e.symm
    | wr j => exact fun e => h e.symm
    | ap => exact h
    | call k => cases k <;> first | trivial | exact h
  | ap => cases d with
    | call k => cases k <;> exact h
    | _ => exact h
  | call k => cases d with
    | rd j => cases k <;> first | trivial | exact h
    | wr j => cases k <;> first | trivial | exact h
    | ap => cases k <;> exact h
    | call k' => cases k <;> cases k' <;> exact h

theorem nc_ap1 (c : Cl) : ¬ compat .ap c := by cases c with
  | call k => cases k <;> exact fun h => h
  | _ => exact fun h => h
theorem nc_ap2 (c : Cl) : ¬ compat c .ap := fun h => nc_ap1 c (compat_symm h)
theorem nc_cc (k k' : CK) : ¬ compat (.call k) (.call k') := by cases k <;> cases k' <;> exact fun h => h
theorem nc_gen1 (c : Cl) : ¬ compat (.call .gen) c := by cases c with
  | call k => cases k <;> exact fun h => h
  | _ => exact fun h => h
theorem nc_gen2 (c : Cl) : ¬ compat c (.call .gen) := fun h => nc_gen1 c (compat_symm h)

theorem chk_swap {F : Fl} {tr : List (Nat × Cl)} {i j : Nat} {c d : Cl} (hc : chk F tr i c) (hd : chk F (rcd F tr i c) j d) : chk F (rcd F tr j d) i c := by
  intro x hx hp
  unfold rcd at hx hd
  split at hx
  · simp at hx
  · rename_i hn
    rw [if_neg hn] at hd
    rcases List.mem_cons.1 hx with rfl | hx
    · exact compat_symm (hd (i, c) (by simp) (by simpa using hp.symm))
    · exact hc x hx hp

theorem rcd_swap {F : Fl} {tr : List (Nat × Cl)} {i j : Nat} {c d : Cl} : ∀ x, x ∈ rcd F (rcd F tr i c) j d ↔ x ∈ rcd F (rcd F tr j d) i c := by
  intro x
  unfold rcd
  split
  · rfl
  · simp only [List.mem_cons]; constructor <;> rintro (h | h | h) <;> simp [h]

theorem chkO_of_rcdO {F : Fl} {tr : List (Nat × Cl)} {i j : Nat} {c d : Option Cl} (ht : F.un = [] → tr = []) (h : chkO F (rcdO F tr i c) j d) : chkO F tr j d := by
  intro k hk
  cases c with
  | none => exact h k hk
  | some c => exact chk_of_rcd ht (h k hk)

theorem chkO_swap {F : Fl} {tr : List (Nat × Cl)} {i j : Nat} {c d : Option Cl} (hc : chkO F tr i c) (hd : chkO F (rcdO F tr i c) j d) : chkO F (rcdO F tr j d) i c := by
  intro k hk
  subst hk
  cases d with
  | none => exact hc k rfl
  | some d => exact chk_swap (hc k rfl) (hd d rfl)

theorem rcdO_swap {F : Fl} {tr : List (Nat × Cl)} {i j : Nat} {c d : Option Cl} : ∀ x, x ∈ rcdO F (rcdO F tr i c) j d ↔ x ∈ rcdO F (rcdO F tr j d) i c := by
  cases c <;> cases d <;> first | exact fun x => Iff.rfl | exact rcd_swap

/-- What a write leaves alone reads as it did. -/
theorem DetS_app {R : Rg} {i j : Nat} {S : List SO} {r s : OpR} {p : Prop} {d : DV} {u : Option (Nat × SO)} (h : DetS R i S r = some (p, d, u))
    (hd : ∀ c c', clO R i r = some c → clO R j s = some c' → compat c c') : DetS R j (appU u S) s = DetS R j S s := by
  cases u with
  | none => rfl
  | some x =>
    obtain ⟨a, o⟩ := x
    have ha : clO R i r = some (.wr a) := by
      cases r with
      | need p d => simp [DetS] at h
      | rd k f => simp only [DetS, Option.map_eq_some_iff, Prod.mk.injEq] at h; obtain ⟨_, _, _, _, h⟩ := h; cases h
      | wr k f => simp only [DetS, Option.map_eq_some_iff, Prod.mk.injEq, Option.some.injEq] at h; obtain ⟨_, _, _, _, rfl, _⟩ := h; rfl
      | al q so f =>
        simp only [DetS] at h
        split at h
        · simp only [Option.some.injEq, Prod.mk.injEq] at h; obtain ⟨_, _, rfl, _⟩ := h; rfl
        · cases h
      | ap k f => simp [DetS] at h
      | call f a => simp [DetS] at h
      | pan d => simp [DetS] at h
      | bad => simp [DetS] at h
    have hne : ∀ b, clO R j s = some (.rd b) ∨ clO R j s = some (.wr b) → a ≠ b := by
      rintro b (hb | hb) <;> exact hd _ _ ha hb
    simp only [appU]
    cases s with
    | rd b k => simp only [DetS]; rw [List.getElem?_set_ne (hne b (.inl rfl))]
    | wr b k => simp only [DetS]; rw [List.getElem?_set_ne (hne b (.inr rfl))]
    | al q so f => simp only [DetS]; rw [List.getElem?_set_ne (hne _ (.inr rfl))]
    | _ => rfl

theorem appU_comm {R : Rg} {i j : Nat} {S S' S2 S2' : List SO} {r s : OpR} {p q : Prop} {d f : DV} {u v : Option (Nat × SO)} (h : DetS R i S r = some (p, d, u)) (k : DetS R j S' s = some (q, f, v))
    (hd : ∀ c c', clO R i r = some c → clO R j s = some c' → compat c c') : appU v (appU u S2) = appU u (appU v S2) := by
  have key : ∀ {i : Nat} {S : List SO} {r : OpR} {p : Prop} {d : DV} {a : Nat} {o : SO}, DetS R i S r = some (p, d, some (a, o)) → clO R i r = some (.wr a) := by
    intro i S r p d a o h
    cases r with
    | need p d => simp [DetS] at h
    | rd k f => simp only [DetS, Option.map_eq_some_iff, Prod.mk.injEq] at h; obtain ⟨_, _, _, _, h⟩ := h; cases h
    | wr k f => simp only [DetS, Option.map_eq_some_iff, Prod.mk.injEq, Option.some.injEq] at h; obtain ⟨_, _, _, _, rfl, _⟩ := h; rfl
    | al q so f =>
      simp only [DetS] at h
      split at h
      · simp only [Option.some.injEq, Prod.mk.injEq] at h; obtain ⟨_, _, rfl, _⟩ := h; rfl
      · cases h
    | ap k f => simp [DetS] at h
    | call f a => simp [DetS] at h
    | pan d => simp [DetS] at h
    | bad => simp [DetS] at h
  cases u with
  | none => rfl
  | some x =>
    cases v with
    | none => rfl
    | some y =>
      obtain ⟨a, o⟩ := x
      obtain ⟨b, o'⟩ := y
      have hne : a ≠ b := hd _ _ (key h) (key k)
      simp only [appU]
      exact List.set_comm _ _ hne

def isDet : OpR → Prop
  | .call .. | .ap .. => False
  | _ => True

theorem StepP_det {R : Rg} {tr : List (Nat × Cl)} {i : Nat} {e : List DV} {S : List SO} {dst : Option Tmp} {N : List (Nat × Cl) → List DV → List SO → Prop} {r : OpR} (hr : isDet r) :
    StepP R tr i e S dst N r = ∃ p d u, DetS R i S r = some (p, d, u) ∧ p ∧ chkO R.F tr i (clO R i r) ∧ N (rcdO R.F tr i (clO R i r)) (putD e dst d) (appU u S) := by
  cases r <;> first | rfl | exact hr.elim

/-- Two kinds of what two operations come to, that may be done in either order, by their text or by what was found. -/
def FreeR (F : Fl) (i j : Nat) (r s : OpR) : Prop :=
  (∃ p d, r = .need p d) ∨ (∃ p d, s = .need p d) ∨ (∃ a h b k, r = .rd a h ∧ s = .rd b k) ∨ (i, j) ∈ F.un ∨ (j, i) ∈ F.un

section swap
variable {R : Rg} {tr : List (Nat × Cl)} {i j : Nat} {e : List DV} {S : List SO} {x y : Option Tmp} {N : List (Nat × Cl) → List DV → List SO → Prop}

theorem free_compat {r s : OpR} (hp : FreeR R.F i j r s) (hs : chkO R.F (rcdO R.F tr i (clO R i r)) j (clO R j s)) : ∀ c c', clO R i r = some c → clO R j s = some c' → compat c c' := by
  intro c c' hc hc'
  rcases hp with ⟨p, d, rfl⟩ | ⟨p, d, rfl⟩ | ⟨a, h, b, k, rfl, rfl⟩ | hm
  · simp [clO] at hc
  · simp [clO] at hc'
  · simp only [clO, Option.some.injEq] at hc hc'; subst hc hc'; trivial
  · have hne : R.F.un ≠ [] := by intro h0; rw [h0] at hm; simp at hm
    have := hs c' hc'
    rw [hc] at this
    exact this (i, c) (mem_rcd hne) hm

theorem step_swap (hx : ∀ t, x = some t → y ≠ some t) (hNt : ∀ t t' e S, (∀ x, x ∈ t ↔ x ∈ t') → N t e S → N t' e S) (ht : R.F.un = [] → tr = []) (hd : R.F.draw = true) {r s : OpR}
    (hp : FreeR R.F i j r s) (h : StepP R tr i e S x (fun tr' e' S' => StepP R tr' j e' S' y N s) r) : StepP R tr j e S y (fun tr' e' S' => StepP R tr' i e' S' x N r) s := by
  have hc := fun d f => putD_comm e d f hx
  have hunm : (∃ p d, r = .need p d) ∨ (∃ p d, s = .need p d) ∨ (∃ a h b k, r = .rd a h ∧ s = .rd b k) ∨ R.F.un ≠ [] := by
    rcases hp with h | h | h | hm
    · exact .inl h
    · exact .inr (.inl h)
    · exact .inr (.inr (.inl h))
    · exact .inr (.inr (.inr (by intro h0; rw [h0] at hm; simp at hm)))
  by_cases hr : isDet r
  · rw [StepP_det hr] at h
    obtain ⟨p, d, u, h1, h2, h3, h⟩ := h
    by_cases hs : isDet s
    · rw [StepP_det hs] at h ⊢
      obtain ⟨p', d', u', h1', h2', h3', h⟩ := h
      have hcm := free_compat hp h3'
      rw [DetS_app h1 hcm] at h1'
      refine ⟨p', d', u', h1', h2', chkO_of_rcdO ht h3', ?_⟩
      rw [StepP_det hr]
      refine ⟨p, d, u, ?_, h2, chkO_swap h3 h3', ?_⟩
      · rw [DetS_app h1' (fun c c' hc hc' => compat_symm (hcm c' c hc' hc))]; exact h1
      · rw [← hc, ← appU_comm (S2 := S) (S2' := S) h1 h1' hcm]; exact hNt _ _ _ _ rcdO_swap h
    · cases s with
      | call f args =>
        simp only [StepP] at h ⊢
        -- a step that isn't a call, then a call
        cases hcl : clO R i r with
        | none =>
          have hu : u = none := by
            cases r with
            | need p d => simp only [DetS, Option.some.injEq, Prod.mk.injEq] at h1; exact h1.2.2.symm
            | rd a k => simp [clO] at hcl
            | wr a k => simp [clO] at hcl
            | al q so k => simp [clO] at hcl
            | _ => simp [DetS] at h1
          subst hu
          rw [hcl] at h
          simp only [rcdO, appU] at h
          have hrn : ∀ S', DetS R i S' r = some (p, d, none) := by
            intro S'
            cases r with
            | need p d => simpa [DetS] using h1
            | rd a k => simp [clO] at hcl
            | wr a k => simp [clO] at hcl
            | al q so k => simp [clO] at hcl
            | _ => simp [DetS] at h1
          refine CallD_mono h (fun _ hk => hk) (fun k d' S' hn => ?_)
          have : StepP R (rcd R.F tr j (.call k)) i (putD e y d') S' x N r := by
            rw [StepP_det hr]
            refine ⟨p, d, none, hrn S', h2, ?_⟩
            rw [hcl, ← hc]
            exact ⟨fun k hk => (by cases hk), hn⟩
          exact this
        | some c =>
          rw [hcl] at h h3
          simp only [rcdO] at h
          have hne : R.F.un ≠ [] := by
            rcases hunm with ⟨_, _, rfl⟩ | ⟨_, _, h⟩ | ⟨_, _, _, _, _, h⟩ | h
            · simp [clO] at hcl
            · cases h
            · cases h
            · exact h
          have hm : (i, j) ∈ R.F.un ∨ (j, i) ∈ R.F.un := by
            rcases hp with ⟨_, _, rfl⟩ | ⟨_, _, h⟩ | ⟨_, _, _, _, _, h⟩ | h
            · simp [clO] at hcl
            · cases h
            · cases h
            · exact h
          have hcp : ∀ k, chk R.F (rcd R.F tr i c) j (.call k) → compat c (.call k) := fun k hk => hk (i, c) (mem_rcd hne) hm
          have back : ∀ k d', chk R.F (rcd R.F tr i c) j (.call k) → N (rcd R.F (rcd R.F tr i c) j (.call k)) (putD (putD e x d) y d') (appU u S) → StepP R (rcd R.F tr j (.call k)) i (putD e y d') S x N r := by
            intro k d' hk hn
            rw [StepP_det hr]
            refine ⟨p, d, u, h1, h2, ?_, ?_⟩
            · rw [hcl]; exact fun c' hc' => (by cases hc'; exact chk_swap (h3 c rfl) hk)
            · rw [hcl, ← hc]; exact hNt _ _ _ _ rcd_swap hn
          rcases h with ⟨q, q1, q2, q3, q4⟩ | ⟨q, q1, q2, q3, q4⟩ | ⟨q, q1, q2, q3, q4, q5⟩
          · exact .inl ⟨q, q1, q2, chk_of_rcd ht q3, fun d' hd' => back _ _ q3 (q4 d' hd')⟩
          · have hS : appU u S = S := by
              have := hcp _ q3
              cases c with
              | rd b =>
                cases r with
                | rd a k => simp only [DetS, Option.map_eq_some_iff, Prod.mk.injEq] at h1; obtain ⟨_, _, _, _, rfl⟩ := h1; rfl
                | wr a k => simp [clO] at hcl
                | al q so k => simp [clO] at hcl
                | _ => simp [clO] at hcl
              | wr b => exact this.elim
              | ap => exact (nc_ap1 _ this).elim
              | call k => exact (nc_cc _ _ this).elim
            rw [hS] at q1 q4
            exact .inr (.inl ⟨q, q1, q2, chk_of_rcd ht q3, fun d' hd' => back _ _ q3 (by rw [hS]; exact q4 d' hd')⟩)
          · exact absurd (hcp _ q3) (nc_gen2 _)
      | ap b k =>
        simp only [StepP] at h ⊢
        obtain ⟨q0, pa, f, q1, q2, q3⟩ := h
        have hneed : ∃ p d, r = .need p d := by
          rcases hp with h | ⟨_, _, h⟩ | ⟨_, _, _, _, _, h⟩ | hm
          · exact h
          · cases h
          · cases h
          · have hne : R.F.un ≠ [] := by intro h0; rw [h0] at hm; simp at hm
            cases hcl : clO R i r with
            | none => cases r with
              | need p d => exact ⟨p, d, rfl⟩
              | rd a k => simp [clO] at hcl
              | wr a k => simp [clO] at hcl
              | al q so k => simp [clO] at hcl
              | _ => simp [DetS] at h1
            | some c =>
              rw [hcl] at q0
              exact absurd (q0 (i, c) (mem_rcd hne) hm) (nc_ap2 _)
        obtain ⟨p0, d0, rfl⟩ := hneed
        simp only [DetS, Option.some.injEq, Prod.mk.injEq] at h1
        obtain ⟨rfl, rfl, rfl⟩ := h1
        simp only [clO, rcdO, appU] at *
        exact ⟨q0, pa, f, q1, q2, fun g => ⟨_, _, _, rfl, h2, fun k hk => (by cases hk), by rw [← hc]; exact q3 g⟩⟩
      | _ => exact (hs trivial).elim
  · cases r with
    | call f args =>
      simp only [StepP] at h
      by_cases hs : isDet s
      · rw [StepP_det hs]
        -- a call, then a step that is none
        have front : ∀ {k : CK} {d : DV}, StepP R (rcd R.F tr i (.call k)) j (putD e x d) S y N s → chk R.F tr i (.call k) →
            (∀ c, clO R j s = some c → compat (.call k) c) ∧ ∃ p' d' u', DetS R j S s = some (p', d', u') ∧ p' ∧ chkO R.F tr j (clO R j s) := by
          intro k d hst hk
          rw [StepP_det hs] at hst
          obtain ⟨p', d', u', h1, h2, h3, h4⟩ := hst
          refine ⟨fun c hcc => ?_, p', d', u', h1, h2, fun c hcc => chk_of_rcd ht (h3 c hcc)⟩
          have hm : (i, j) ∈ R.F.un ∨ (j, i) ∈ R.F.un := by
            rcases hp with ⟨_, _, h⟩ | ⟨_, _, rfl⟩ | ⟨_, _, _, _, h, _⟩ | h
            · cases h
            · simp [clO] at hcc
            · cases h
            · exact h
          have hne : R.F.un ≠ [] := by intro h0; rw [h0] at hm; simp at hm
          exact h3 c hcc (i, _) (mem_rcd hne) hm
        have back : ∀ {k : CK} {d : DV} {S' : List SO} {p' : Prop} {d' : DV} {u' : Option (Nat × SO)}, DetS R j S s = some (p', d', u') → (S' = S ∨ clO R j s = none) → StepP R (rcd R.F tr i (.call k)) j (putD e x d) S' y N s →
            chk R.F tr i (.call k) → chk R.F (rcdO R.F tr j (clO R j s)) i (.call k) ∧ N (rcd R.F (rcdO R.F tr j (clO R j s)) i (.call k)) (putD (putD e y d') x d) (appU u' S') := by
          intro k d S' p' d' u' hdet hS hst hk
          rw [StepP_det hs] at hst
          obtain ⟨p2, d2, u2, h1, h2, h3, h4⟩ := hst
          have : DetS R j S' s = DetS R j S s := by
            rcases hS with rfl | hn
            · rfl
            · cases s <;> first | rfl | (simp [clO] at hn)
          rw [this, hdet] at h1
          simp only [Option.some.injEq, Prod.mk.injEq] at h1
          obtain ⟨rfl, rfl, rfl⟩ := h1
          have h3' : chkO R.F (rcdO R.F tr i (some (.call k))) j (clO R j s) := h3
          refine ⟨chkO_swap (c := some (.call k)) (fun c hcc => by cases hcc; exact hk) h3' _ rfl, ?_⟩
          rw [← hc]
          exact hNt _ _ _ _ (rcdO_swap (c := some (.call k))) h4
        rcases h with ⟨q, q1, ⟨d0, q2⟩, q3, q4⟩ | ⟨q, q1, ⟨d0, q2⟩, q3, q4⟩ | ⟨q, q1, q2, q3, q4, q5⟩
        · obtain ⟨hcmp, p', d', u', f1, f2, f3⟩ := front (q4 d0 q2) q3
          refine ⟨p', d', u', f1, f2, f3, ?_⟩
          exact .inl ⟨q, q1, ⟨d0, q2⟩, (back f1 (.inl rfl) (q4 d0 q2) q3).1, fun d hd => (back f1 (.inl rfl) (q4 d hd) q3).2⟩
        · obtain ⟨hcmp, p', d', u', f1, f2, f3⟩ := front (q4 d0 q2) q3
          refine ⟨p', d', u', f1, f2, f3, ?_⟩
          have hu : appU u' S = S := by
            cases s with
            | need p d => simp only [DetS, Option.some.injEq, Prod.mk.injEq] at f1; obtain ⟨_, _, rfl⟩ := f1; rfl
            | rd a k => simp only [DetS, Option.map_eq_some_iff, Prod.mk.injEq] at f1; obtain ⟨_, _, _, _, rfl⟩ := f1; rfl
            | wr a k => exact (hcmp _ rfl).elim
            | al q so k => exact (hcmp _ rfl).elim
            | _ => simp [DetS] at f1
          rw [hu]
          exact .inr (.inl ⟨q, q1, ⟨d0, q2⟩, (back f1 (.inl rfl) (q4 d0 q2) q3).1, fun d hd => by have := (back f1 (.inl rfl) (q4 d hd) q3).2; rwa [hu] at this⟩)
        · obtain ⟨d0, S0, q6⟩ := q2 hd
          have hneed : clO R j s = none := by
            cases hcl : clO R j s with
            | none => rfl
            | some c =>
              have h0 : StepP R (rcd R.F tr i (.call .gen)) j (putD e x d0) S0 y N s := q4 d0 S0 q6
              rw [StepP_det hs] at h0
              obtain ⟨p2, d2, u2, h1, h2, h3, h4⟩ := h0
              have hm : (i, j) ∈ R.F.un ∨ (j, i) ∈ R.F.un := by
                rcases hp with ⟨_, _, h⟩ | ⟨_, _, rfl⟩ | ⟨_, _, _, _, h, _⟩ | h
                · cases h
                · simp [clO] at hcl
                · cases h
                · exact h
              have hne : R.F.un ≠ [] := by intro h0; rw [h0] at hm; simp at hm
              have := h3 c hcl (i, _) (mem_rcd hne) hm
              exact absurd this (nc_gen1 _)
          have h0 : StepP R (rcd R.F tr i (.call .gen)) j (putD e x d0) S0 y N s := q4 d0 S0 q6
          rw [StepP_det hs] at h0
          obtain ⟨p', d', u', h1, h2, h3, h4⟩ := h0
          have hsame : ∀ S', DetS R j S' s = DetS R j S0 s := by intro S'; cases s <;> first | rfl | (simp [clO] at hneed)
          have f1 : DetS R j S s = some (p', d', u') := by rw [hsame]; exact h1
          have hu : u' = none := by
            cases s with
            | need p d => simp only [DetS, Option.some.injEq, Prod.mk.injEq] at f1; exact f1.2.2.symm
            | rd a k => simp [clO] at hneed
            | wr a k => simp [clO] at hneed
            | al so k => simp [clO] at hneed
            | _ => simp [DetS] at f1
          subst hu
          refine ⟨p', d', none, f1, h2, (by rw [hneed]; exact fun k hk => (by cases hk)), ?_⟩
          exact .inr (.inr ⟨q, q1, fun _ => ⟨d0, S0, q6⟩, (back f1 (.inr hneed) (q4 d0 S0 q6) q3).1, fun d S' hd => (back f1 (.inr hneed) (q4 d S' hd) q3).2, q5⟩)
      · -- two that aren't: never free
        have hm : (i, j) ∈ R.F.un ∨ (j, i) ∈ R.F.un := by
          rcases hp with ⟨_, _, h⟩ | ⟨_, _, rfl⟩ | ⟨_, _, _, _, h, _⟩ | h
          · cases h
          · exact (hs trivial).elim
          · cases h
          · exact h
        have hne : R.F.un ≠ [] := by intro h0; rw [h0] at hm; simp at hm
        have no : ∀ {k : CK} {d : DV} {S' : List SO}, ¬ StepP R (rcd R.F tr i (.call k)) j (putD e x d) S' y N s := by
          intro k d S' hst
          cases s with
          | call f' args' =>
            have : ∀ k', ¬ chk R.F (rcd R.F tr i (.call k)) j (.call k') := fun k' hk => absurd (hk (i, _) (mem_rcd hne) hm) (nc_cc _ _)
            rcases hst with ⟨_, _, _, h, _⟩ | ⟨_, _, _, h, _⟩ | ⟨_, _, _, h, _⟩ <;> exact this _ h
          | ap b f' => exact absurd (hst.1 (i, _) (mem_rcd hne) hm) (nc_ap2 _)
          | _ => exact hs trivial
        rcases h with ⟨q, q1, ⟨d0, q2⟩, q3, q4⟩ | ⟨q, q1, ⟨d0, q2⟩, q3, q4⟩ | ⟨q, q1, q2, q3, q4, q5⟩
        · exact (no (q4 d0 q2)).elim
        · exact (no (q4 d0 q2)).elim
        · obtain ⟨d0, S0, q6⟩ := q2 hd
          exact (no (q4 d0 S0 q6)).elim
    | ap a k =>
      simp only [StepP] at h
      obtain ⟨q0, pa, f, q1, q2, q3⟩ := h
      have hneed : ∃ p d, s = .need p d := by
        rcases hp with ⟨_, _, h⟩ | h | ⟨_, _, _, _, h, _⟩ | hm
        · cases h
        · exact h
        · cases h
        · have hne : R.F.un ≠ [] := by intro h0; rw [h0] at hm; simp at hm
          have h0 := q3 0
          have bad : ∀ c, ¬ chk R.F (rcd R.F tr i .ap) j c := fun c hk => absurd (hk (i, _) (mem_rcd hne) hm) (nc_ap1 _)
          cases s with
          | need p d => exact ⟨p, d, rfl⟩
          | rd b k => obtain ⟨_, _, _, _, _, h3, _⟩ := h0; exact (bad _ (h3 _ rfl)).elim
          | wr b k => obtain ⟨_, _, _, _, _, h3, _⟩ := h0; exact (bad _ (h3 _ rfl)).elim
          | al q b k => obtain ⟨_, _, _, _, _, h3, _⟩ := h0; exact (bad _ (h3 _ rfl)).elim
          | ap b k => exact (bad _ h0.1).elim
          | call f' args' =>
            simp only [StepP] at h0
            rcases h0 with ⟨_, _, _, h, _⟩ | ⟨_, _, _, h, _⟩ | ⟨_, _, _, h, _⟩ <;> exact (bad _ h).elim
          | pan d => obtain ⟨_, _, _, h1, _⟩ := h0; simp [DetS] at h1
          | bad => obtain ⟨_, _, _, h1, _⟩ := h0; simp [DetS] at h1
      obtain ⟨p0, d0, rfl⟩ := hneed
      have hall : ∀ g, p0 ∧ N (rcd R.F tr i .ap) (putD (putD e x (f g).2) y d0) (S.set a (f g).1) := by
        intro g
        obtain ⟨p', d', u', h1, h2, h3, h4⟩ := q3 g
        simp only [DetS, Option.some.injEq, Prod.mk.injEq] at h1
        obtain ⟨rfl, rfl, rfl⟩ := h1
        exact ⟨h2, h4⟩
      refine ⟨p0, d0, none, rfl, (hall 0).1, fun k hk => (by cases hk), ?_⟩
      simp only [clO, rcdO, appU]
      exact ⟨q0, pa, f, q1, q2, fun g => by rw [← hc]; exact (hall g).2⟩
    | _ => exact (hr trivial).elim
end swap
end Go.Dv
/-
  The rule of a region: with the text's order alone, and with whatever order the machine draws.
-/
namespace Go.Dv
set_option linter.unusedVariables false
open Go Go.RowKit

/-- What an operation is, by its text. 0: it asks nothing of the store; 1: it may read it. -/
def sclOk (R : Rg) (scl : Oper → Nat) : Prop :=
  (∀ ev o, scl o = 0 → (∃ p d, R.opR ev o = .need p d) ∨ R.opR ev o = .bad) ∧
  (∀ ev o, scl o = 1 → (∃ p d, R.opR ev o = .need p d) ∨ (∃ j h, R.opR ev o = .rd j h) ∨ R.opR ev o = .bad)

/-- Two operations may be done in either order. -/
def freeB (scl : Oper → Nat) (un : List (Nat × Nat)) (arr : Array Oper) (i j : Nat) : Bool :=
  match arr[i]?, arr[j]? with
  | some x, some y => x.apart arr y && (un.contains (i, j) || scl x == 0 || scl y == 0 || (scl x == 1 && scl y == 1))
  | _, _ => false

/-- The edges go down, and what no edge orders is free. -/
def regOk (scl : Oper → Nat) (un : List (Nat × Nat)) (arr : Array Oper) : Bool :=
  (List.range arr.size).all (fun j => match arr[j]? with
    | some o => o.after.all (fun e => !Region.binds .any e || decide (e.on < j))
    | none => true) &&
  (List.range arr.size).all (fun j => (List.range j).all fun i => ((Region.before arr).getD j 0).testBit i || freeB scl un arr i j)

theorem StepP_some {R : Rg} (hd : R.F.draw = true) {tr : List (Nat × Cl)} {i : Nat} {e : List DV} {S : List SO} {dst : Option Tmp} {N : List (Nat × Cl) → List DV → List SO → Prop} {r : OpR} (h : StepP R tr i e S dst N r) :
    r ≠ .bad ∧ ∃ t d S', N t (putD e dst d) S' := by
  cases r with
  | call f args =>
    refine ⟨by simp, ?_⟩
    simp only [StepP] at h
    rcases h with ⟨q, q1, ⟨d0, q2⟩, q3, q4⟩ | ⟨q, q1, ⟨d0, q2⟩, q3, q4⟩ | ⟨q, q1, q2, q3, q4, q5⟩
    · exact ⟨_, _, _, q4 d0 q2⟩
    · exact ⟨_, _, _, q4 d0 q2⟩
    · obtain ⟨d0, S0, q6⟩ := q2 hd
      exact ⟨_, _, _, q4 d0 S0 q6⟩
  | ap j k => obtain ⟨_, pa, f, _, _, h⟩ := h; exact ⟨by simp, _, _, _, h 0⟩
  | pan d => obtain ⟨_, _, _, h, _⟩ := h; simp [DetS] at h
  | bad => obtain ⟨_, _, _, h, _⟩ := h; simp [DetS] at h
  | need p d => obtain ⟨_, _, _, _, _, _, h⟩ := h; exact ⟨by simp, _, _, _, h⟩
  | rd j k => obtain ⟨_, _, _, _, _, _, h⟩ := h; exact ⟨by simp, _, _, _, h⟩
  | wr j k => obtain ⟨_, _, _, _, _, _, h⟩ := h; exact ⟨by simp, _, _, _, h⟩
  | al q so k => obtain ⟨_, _, _, _, _, _, h⟩ := h; exact ⟨by simp, _, _, _, h⟩

theorem eff_scl {R : Rg} {scl : Oper → Nat} (hs : sclOk R scl) {e : List DV} {i : Nat} {o : Oper} (ho : R.arr[i]? = some o) {dst : Option Tmp} {r : OpR} (he : eff R e i = some (dst, r)) (hb : r ≠ .bad) :
    dst = o.dst ∧ (scl o = 0 → ∃ p d, r = .need p d) ∧ (scl o = 1 → (∃ p d, r = .need p d) ∨ ∃ j h, r = .rd j h) := by
  simp only [eff, ho] at he
  cases hw : wantD R.arr e o with
  | none => simp [hw] at he
  | some b =>
    rw [hw] at he
    cases b with
    | false =>
      simp only [Option.some.injEq, Prod.mk.injEq] at he
      obtain ⟨rfl, rfl⟩ := he
      exact ⟨rfl, fun _ => ⟨_, _, rfl⟩, fun _ => .inl ⟨_, _, rfl⟩⟩
    | true =>
      simp only [Option.some.injEq, Prod.mk.injEq] at he
      obtain ⟨rfl, rfl⟩ := he
      refine ⟨rfl, fun h => (hs.1 _ o h).resolve_right hb, fun h => ?_⟩
      rcases hs.2 (evD e) o h with h | h | h
      · exact .inl h
      · exact .inr h
      · exact absurd h hb

/-- One of two neighbours that are free may be done ahead of the other. -/
theorem WD_swap {R : Rg} {scl : Oper → Nat} (hloc : locOk R) (hs : sclOk R scl) (hd : R.F.draw = true) {tr : List (Nat × Cl)} (ht : R.F.un = [] → tr = []) {i j : Nat} {l : List Nat} {e : List DV} {S : List SO}
    (hf : freeB scl R.F.un R.arr i j = true) (h : WD R tr (i :: j :: l) e S) : WD R tr (j :: i :: l) e S := by
  unfold freeB at hf
  cases hoi : R.arr[i]? with
  | none => simp [hoi] at hf
  | some oi =>
    cases hoj : R.arr[j]? with
    | none => simp [hoi, hoj] at hf
    | some oj =>
      simp only [hoi, hoj, Bool.and_eq_true, Bool.or_eq_true] at hf
      obtain ⟨hap, hf⟩ := hf
      obtain ⟨ap1, ap2, ap3⟩ := Oper.apart_spec hap
      rw [WD_cons R hd] at h
      obtain ⟨x, r, her, h⟩ := h
      obtain ⟨hrb, t0, d0, S0, h0⟩ := StepP_some hd h
      obtain ⟨hxi, hr0, hr1⟩ := eff_scl hs hoi her hrb
      subst hxi
      rw [WD_cons R hd, eff_put hloc hoj ap1] at h0
      obtain ⟨y, s, hes, h0⟩ := h0
      obtain ⟨hsb, _⟩ := StepP_some hd h0
      obtain ⟨hyj, hs0, hs1⟩ := eff_scl hs hoj hes hsb
      subst hyj
      have h' : StepP R tr i e S oi.dst (fun tr' e' S' => StepP R tr' j e' S' oj.dst (fun tr' e' S' => WD R tr' l e' S') s) r := by
        refine StepP_mono (fun _ => Iff.rfl) (fun t t' d S' _ htt hn => ?_) h
        have hn := WD_trace R hd _ _ _ _ _ htt hn
        rw [WD_cons R hd, eff_put hloc hoj ap1, hes] at hn
        obtain ⟨_, _, hq, hn⟩ := hn
        cases hq
        exact hn
      have hfree : FreeR R.F i j r s := by
        rcases hf with ((hm | hm) | hm) | hm
        · exact .inr (.inr (.inr (.inl (by simpa using hm))))
        · exact .inl (hr0 (by simpa using hm))
        · exact .inr (.inl (hs0 (by simpa using hm)))
        · simp only [beq_iff_eq] at hm
          rcases hr1 hm.1 with h1 | ⟨a, k, h1⟩
          · exact .inl h1
          · rcases hs1 hm.2 with h2 | ⟨b, k', h2⟩
            · exact .inr (.inl h2)
            · exact .inr (.inr (.inl ⟨a, k, b, k', h1, h2⟩))
      have h'' := step_swap (fun t ht' => ap2 t ht') (fun t t' e S htt hn => WD_trace R hd l t t' e S htt hn) ht hd hfree h'
      rw [WD_cons R hd]
      refine ⟨_, s, hes, StepP_mono (fun _ => Iff.rfl) (fun t t' d S' _ htt hn => ?_) h''⟩
      rw [WD_cons R hd, eff_put hloc hoi ap3]
      exact ⟨_, r, her, StepP_mono htt (fun t t' d S' _ htt hn => WD_trace R hd l t t' _ S' htt hn) hn⟩

theorem WD_cons_mono {R : Rg} (hd : R.F.draw = true) {i : Nat} {l l' : List Nat} {tr : List (Nat × Cl)} {e : List DV} {S : List SO} (ht : R.F.un = [] → tr = [])
    (hl : ∀ tr e S, (R.F.un = [] → tr = []) → WD R tr l e S → WD R tr l' e S) (h : WD R tr (i :: l) e S) : WD R tr (i :: l') e S := by
  rw [WD_cons R hd] at h ⊢
  obtain ⟨x, r, her, h⟩ := h
  exact ⟨x, r, her, StepP_mono (fun _ => Iff.rfl) (fun t t' d S' htn htt hn => WD_trace R hd l' t t' _ S' htt (hl _ _ _ (fun hu => htn hu (ht hu)) hn)) h⟩

theorem WD_front {R : Rg} {scl : Oper → Nat} (hloc : locOk R) (hs : sclOk R scl) (hd : R.F.draw = true) {i : Nat} {post : List Nat} : ∀ (pre : List Nat) (tr : List (Nat × Cl)) (e : List DV) (S : List SO), (R.F.un = [] → tr = []) →
    (∀ k ∈ pre, freeB scl R.F.un R.arr k i = true) → WD R tr (pre ++ i :: post) e S → WD R tr (i :: (pre ++ post)) e S
  | [], _, _, _, _, _, h => h
  | k :: pre, tr, e, S, ht, hf, h => by
    have h1 : WD R tr (k :: (i :: (pre ++ post))) e S :=
      WD_cons_mono hd ht (fun tr e S ht h => WD_front hloc hs hd pre tr e S ht (fun k' hk => hf k' (by simp [hk])) h) h
    exact WD_swap hloc hs hd ht (hf k (by simp)) h1

/-- What is left to do, in the text's order. -/
def leftOf (n : Nat) (listed : Array Bool) : List Nat := (List.range n).filter fun i => !listed.getD i true

theorem ready_spec {ops : Array Oper} {listed : Array Bool} {i : Nat} (h : i ∈ Region.ready .any ops listed) :
    i < ops.size ∧ listed.getD i true = false ∧ ∃ o, ops[i]? = some o ∧ ∀ e ∈ o.after, Region.binds .any e = true → listed.getD e.on false = true := by
  unfold Region.ready at h
  rw [List.mem_filter] at h
  obtain ⟨h1, h2⟩ := h
  rw [Bool.and_eq_true] at h2
  refine ⟨by simpa using h1, by simpa using h2.1, ?_⟩
  cases ho : ops[i]? with
  | none => simp [ho] at h2
  | some o =>
    refine ⟨o, rfl, fun e he hb => ?_⟩
    have := h2.2
    rw [ho] at this
    simp only [Option.map_some, Option.getD_some] at this
    have := Array.all_eq_true'.1 this e he
    rw [hb] at this
    simpa using this

def befMask (acc : Array Nat) (o : Oper) : Nat := o.after.toList.foldl (fun s e => if Region.binds .any e then s ||| 2 ^ e.on ||| acc.getD e.on 0 else s) 0
def befStep (acc : Array Nat) (o : Oper) : Array Nat := acc.push (befMask acc o)

theorem before_eq (ops : Array Oper) : Region.before ops = ops.toList.foldl befStep #[] := by
  unfold Region.before
  rw [← Array.foldl_toList]
  congr 1
  funext acc o
  unfold befStep befMask
  rw [← Array.foldl_toList]

theorem befStep_size : ∀ (l : List Oper) (acc : Array Nat), (l.foldl befStep acc).size = acc.size + l.length
  | [], acc => by simp
  | o :: l, acc => by rw [List.foldl_cons, befStep_size l]; simp [befStep]; omega

theorem befStep_keep : ∀ (l : List Oper) (acc : Array Nat) (k : Nat), k < acc.size → (l.foldl befStep acc).getD k 0 = acc.getD k 0
  | [], acc, k, _ => rfl
  | o :: l, acc, k, hk => by
    rw [List.foldl_cons, befStep_keep l _ k (by simp [befStep]; omega)]
    unfold befStep
    rw [Array.getD_eq_getD_getElem?, Array.getD_eq_getD_getElem?, Array.getElem?_push_lt hk, Array.getElem?_eq_getElem hk]

theorem befMask_congr {A B : Array Nat} {o : Oper} (h : ∀ e ∈ o.after, Region.binds .any e = true → A.getD e.on 0 = B.getD e.on 0) : befMask A o = befMask B o := by
  unfold befMask
  have : ∀ (es : List Edge) (s : Nat), (∀ e ∈ es, Region.binds .any e = true → A.getD e.on 0 = B.getD e.on 0) →
      es.foldl (fun s e => if Region.binds .any e then s ||| 2 ^ e.on ||| A.getD e.on 0 else s) s = es.foldl (fun s e => if Region.binds .any e then s ||| 2 ^ e.on ||| B.getD e.on 0 else s) s := by
    intro es
    induction es with
    | nil => intro s _; rfl
    | cons e es ih =>
      intro s hes
      rw [List.foldl_cons, List.foldl_cons]
      by_cases hb : Region.binds .any e = true
      · rw [if_pos hb, if_pos hb, hes e (by simp) hb]
        exact ih _ (fun e' he' => hes e' (by simp [he']))
      · rw [if_neg hb, if_neg hb]
        exact ih _ (fun e' he' => hes e' (by simp [he']))
  exact this _ _ (fun e he => h e (by simpa using he))

theorem before_at (ops : Array Oper) (j : Nat) (o : Oper) (ho : ops[j]? = some o) (hdown : ∀ e ∈ o.after, Region.binds .any e = true → e.on < j) :
    (Region.before ops).getD j 0 = befMask (Region.before ops) o := by
  have hj : j < ops.size := (Array.getElem?_eq_some_iff.1 ho).1
  have hsplit : ops.toList = ops.toList.take j ++ o :: ops.toList.drop (j + 1) := by
    have : ops.toList[j]? = some o := by rw [Array.getElem?_toList]; exact ho
    obtain ⟨h1, h2⟩ := List.getElem?_eq_some_iff.1 this
    rw [← h2, List.getElem_cons_drop h1, List.take_append_drop]
  rw [before_eq, hsplit, List.foldl_append, List.foldl_cons]
  generalize hA : (ops.toList.take j).foldl befStep #[] = A
  have hAs : A.size = j := by rw [← hA, befStep_size]; simp; omega
  rw [befStep_keep _ _ _ (by simp [befStep, hAs])]
  have h1 : (befStep A o).getD j 0 = befMask A o := by
    unfold befStep
    rw [Array.getD_eq_getD_getElem?, ← hAs, Array.getElem?_push_size]
    rfl
  rw [h1]
  refine befMask_congr fun e he hb => ?_
  have hlt := hdown e he hb
  rw [befStep_keep _ _ _ (by simp [befStep, hAs]; omega)]
  unfold befStep
  rw [Array.getD_eq_getD_getElem?, Array.getD_eq_getD_getElem?, Array.getElem?_push_lt (by omega), Array.getElem?_eq_getElem (by omega)]

theorem foldl_bits (B : Nat → Nat) (i : Nat) : ∀ (es : List Edge) (s : Nat), (es.foldl (fun s e => if Region.binds .any e then s ||| 2 ^ e.on ||| B e.on else s) s).testBit i = true →
    s.testBit i = true ∨ ∃ e ∈ es, Region.binds .any e = true ∧ (e.on = i ∨ (B e.on).testBit i = true)
  | [], s, h => .inl h
  | e :: es, s, h => by
    rw [List.foldl_cons] at h
    rcases foldl_bits B i es _ h with h | ⟨e', he', h⟩
    · by_cases hb : Region.binds .any e = true
      · rw [if_pos hb] at h
        simp only [Nat.testBit_or, Bool.or_eq_true] at h
        rcases h with (h | h) | h
        · exact .inl h
        · rw [Nat.testBit_two_pow] at h; exact .inr ⟨e, by simp, hb, .inl (by simpa using h)⟩
        · exact .inr ⟨e, by simp, hb, .inr h⟩
      · rw [if_neg hb] at h; exact .inl h
    · exact .inr ⟨e', by simp [he'], h⟩

/-- What has been done is closed under what must come ahead. -/
def ClosedL (ops : Array Oper) (listed : Array Bool) : Prop := ∀ j o, ops[j]? = some o → listed.getD j false = true → ∀ e ∈ o.after, Region.binds .any e = true → listed.getD e.on false = true

theorem before_listed {ops : Array Oper} (hdown : ∀ (j : Nat) (o : Oper), ops[j]? = some o → ∀ e ∈ o.after, Region.binds .any e = true → e.on < j) {listed : Array Bool} (hc : ClosedL ops listed) :
    ∀ (n j : Nat) (o : Oper), j < n → ops[j]? = some o → (∀ e ∈ o.after, Region.binds .any e = true → listed.getD e.on false = true) → ∀ i, ((Region.before ops).getD j 0).testBit i = true → listed.getD i false = true
  | 0, _, _, h, _, _, _, _ => by omega
  | n + 1, j, o, hj, ho, he, i, hi => by
    rw [before_at ops j o ho (hdown j o ho), befMask] at hi
    rcases foldl_bits (fun k => (Region.before ops).getD k 0) i o.after.toList 0 hi with h | ⟨e, hem, hb, h⟩
    · simp at h
    · have hlt := hdown j o ho e (by simpa using hem) hb
      have hl := he e (by simpa using hem) hb
      rcases h with rfl | h
      · exact hl
      · cases hoe : ops[e.on]? with
        | none =>
          rw [Array.getElem?_eq_none_iff] at hoe
          have := (Array.getElem?_eq_some_iff.1 ho).1
          omega
        | some o' => exact before_listed hdown hc n e.on o' (by omega) hoe (fun e' he' hb' => hc e.on o' hoe hl e' he' hb') i h

theorem leftOf_split {n : Nat} {listed : Array Bool} {i : Nat} (hi : i < n) (hl : listed.getD i true = false) :
    ∃ pre post, leftOf n listed = pre ++ i :: post ∧ (∀ k ∈ pre, k < i ∧ listed.getD k true = false) ∧ leftOf n (listed.setIfInBounds i true) = pre ++ post := by
  have hsplit : List.range n = List.range i ++ i :: List.range' (i + 1) (n - (i + 1)) := by
    rw [List.range_eq_range', List.range_eq_range']
    have : List.range' 0 n = List.range' 0 i ++ List.range' i (n - i) := by
      have := List.range'_append (s := 0) (m := i) (n := n - i) (step := 1)
      simp only [Nat.one_mul, Nat.zero_add] at this
      rw [this]
      congr 1
      omega
    rw [this, show n - i = (n - (i + 1)) + 1 by omega, List.range'_succ]
  refine ⟨(List.range i).filter fun k => !listed.getD k true, (List.range' (i + 1) (n - (i + 1))).filter fun k => !listed.getD k true, ?_, ?_, ?_⟩
  · unfold leftOf
    rw [hsplit, List.filter_append, List.filter_cons, hl]
    rfl
  · intro k hk
    rw [List.mem_filter] at hk
    exact ⟨by simpa using hk.1, by simpa using hk.2⟩
  · have hsz : i < listed.size := by
      rcases Nat.lt_or_ge i listed.size with h | h
      · exact h
      · rw [Array.getD_eq_getD_getElem?, Array.getElem?_eq_none h] at hl; cases hl
    have hne : ∀ k, k ≠ i → (listed.setIfInBounds i true).getD k true = listed.getD k true := by
      intro k hk
      simp only [Array.getD_eq_getD_getElem?]
      rw [Array.getElem?_setIfInBounds_ne (Ne.symm hk)]
    unfold leftOf
    rw [hsplit, List.filter_append, List.filter_cons]
    have : (listed.setIfInBounds i true).getD i true = true := by
      simp only [Array.getD_eq_getD_getElem?]
      rw [Array.getElem?_setIfInBounds_self_of_lt hsz]
      rfl
    rw [this]
    simp only [Bool.not_true, Bool.false_eq_true, if_false]
    congr 1
    · apply List.filter_congr
      intro k hk
      rw [hne k (by have : k < i := by simpa using hk
                    omega)]
    · apply List.filter_congr
      intro k hk
      rw [hne k (by have := List.mem_range'_1.1 hk
                    omega)]

theorem WD_any (R : Rg) {scl : Oper → Nat} (hop : ∀ e o, OpOk R.P R.W0 e o (R.opR (evD e) o)) (hloc : locOk R) (hs : sclOk R scl) (hd : R.F.draw = true) (hreg : regOk scl R.F.un R.arr = true) {c0 : Cx} {Q : Exit → Act → World → Prop}
    (hK : ∀ pl e S a w, R.K e S → Agree R.W0 pl e S a w → CxLe c0 (cxOf w pl S) → Q .normal a w)
    (hKP : ∀ pl d S a w p, R.KP d S → Good R.W0 pl S w → a.defers = [] → Rep (cxOf w pl S) d p.v → p.recovered = false → p.goexit = false → CxLe c0 (cxOf w pl S) → Q (.panic [p]) a w) :
    ∀ (fuel : Nat) (listed : Array Bool) (tr : List (Nat × Cl)) (e : List DV) (S : List SO) (pl : Nat → Nat → Pl) (a : Act) (w : World), listed.size = R.arr.size → (leftOf R.arr.size listed).length = fuel → ClosedL R.arr listed →
      (R.F.un = [] → tr = []) → WD R tr (leftOf R.arr.size listed) e S → Agree R.W0 pl e S a w → CxLe c0 (cxOf w pl S) → wpAny R.P .any R.arr Q fuel listed a w := by
  simp only [regOk, Bool.and_eq_true, List.all_eq_true] at hreg
  obtain ⟨hreg1, hreg2⟩ := hreg
  have hdown : ∀ (j : Nat) (o : Oper), R.arr[j]? = some o → ∀ e ∈ o.after, Region.binds .any e = true → e.on < j := by
    intro j o ho e he hb
    have := hreg1 j (by simpa using (Array.getElem?_eq_some_iff.1 ho).1)
    rw [ho] at this
    have := Array.all_eq_true'.1 this e he
    rw [hb] at this
    simpa using this
  have minimal : ∀ listed, Region.ready .any R.arr listed = [] → leftOf R.arr.size listed = [] := by
    intro listed hr
    have : ∀ i, i < R.arr.size → listed.getD i true = false → False := by
      intro i
      induction i using Nat.strongRecOn with
      | _ i ih =>
        intro hi hl
        obtain ⟨o, ho⟩ : ∃ o, R.arr[i]? = some o := ⟨_, Array.getElem?_eq_getElem hi⟩
        have : i ∈ Region.ready .any R.arr listed := by
          unfold Region.ready
          rw [List.mem_filter]
          refine ⟨by simpa using hi, ?_⟩
          rw [hl, ho]
          simp only [Bool.not_false, Option.map_some, Option.getD_some, Bool.true_and]
          refine Array.all_eq_true'.2 fun e he => ?_
          by_cases hb : Region.binds .any e = true
          · have hlt := hdown i o ho e he hb
            rw [hb]
            simp only [Bool.not_true, Bool.false_or]
            cases hle : listed[e.on]? with
            | none => exact (ih e.on hlt (by omega) (by
                have hsz : i < listed.size := by
                  rcases Nat.lt_or_ge i listed.size with h | h
                  · exact h
                  · rw [Array.getD_eq_getD_getElem?, Array.getElem?_eq_none h] at hl; cases hl
                rw [Array.getElem?_eq_none_iff] at hle
                omega)).elim
            | some b =>
              cases b with
              | true => simp [Array.getD_eq_getD_getElem?, hle]
              | false => exact (ih e.on hlt (by omega) (by simp [Array.getD_eq_getD_getElem?, hle])).elim
          · simp [hb]
        rw [hr] at this
        simp at this
    unfold leftOf
    rw [List.filter_eq_nil_iff]
    intro i hi
    cases hl : listed.getD i true with
    | true => simp
    | false => exact (this i (by simpa using hi) hl).elim
  intro fuel
  induction fuel with
  | zero =>
    intro listed tr e S pl a w hsz hlen hcl ht h ha hc
    have hnil : leftOf R.arr.size listed = [] := List.eq_nil_of_length_eq_zero hlen
    rw [hnil] at h
    simp only [WD] at h
    simp only [wpAny]
    refine ⟨?_, hK pl e S a w h ha hc⟩
    cases hr : Region.ready .any R.arr listed with
    | nil => rfl
    | cons i rs =>
      obtain ⟨h1, h2, _⟩ := ready_spec (ops := R.arr) (listed := listed) (i := i) (by rw [hr]; simp)
      have : i ∈ leftOf R.arr.size listed := by unfold leftOf; rw [List.mem_filter]; exact ⟨by simpa using h1, by rw [h2]; rfl⟩
      rw [hnil] at this
      simp at this
  | succ fuel ih =>
    intro listed tr e S pl a w hsz hlen hcl ht h ha hc
    simp only [wpAny]
    constructor
    · intro hr
      rw [minimal listed hr] at hlen
      simp at hlen
    · intro i hi
      obtain ⟨h1, h2, o, ho, h3⟩ := ready_spec hi
      obtain ⟨pre, post, hl1, hpre, hl2⟩ := leftOf_split h1 h2
      rw [hl1] at h
      have hfree : ∀ k ∈ pre, freeB scl R.F.un R.arr k i = true := by
        intro k hk
        obtain ⟨hki, hkl⟩ := hpre k hk
        have := hreg2 i (by simpa using h1)
        have := this k (by simpa using hki)
        rw [Bool.or_eq_true] at this
        rcases this with hb | hb
        · have := before_listed hdown hcl (i + 1) i o (by omega) ho h3 k hb
          simp only [Array.getD_eq_getD_getElem?] at this hkl
          cases hx : listed[k]? with
          | none => rw [hx] at this; cases this
          | some b => rw [hx] at this hkl; cases b <;> simp_all
        · exact hb
      have h' := WD_front hloc hs hd pre tr e S ht hfree h
      refine WD_step R hop hKP h' ha hc fun tr' e' S' pl' a' w' htn hn ha' hc' => ?_
      refine ih (listed.setIfInBounds i true) tr' e' S' pl' a' w' (by simpa using hsz) ?_ ?_ (fun hu => htn hu (ht hu)) (by rw [hl2]; exact hn) ha' hc'
      · rw [hl2]; rw [hl1] at hlen; simp at hlen ⊢; omega
      · intro j oj hoj hlj e' he' hb'
        have hset : ∀ k, listed.getD k false = true → (listed.setIfInBounds i true).getD k false = true := by
          intro k hk
          simp only [Array.getD_eq_getD_getElem?] at hk ⊢
          rw [Array.getElem?_setIfInBounds]
          split
          · split
            · rfl
            · rename_i hki hnlt; subst hki; rw [Array.getElem?_eq_none (by omega)] at hk; cases hk
          · exact hk
        by_cases hji : j = i
        · subst hji
          rw [ho] at hoj
          cases hoj
          exact hset _ (h3 e' he' hb')
        · refine hset _ (hcl j oj hoj ?_ e' he' hb')
          simp only [Array.getD_eq_getD_getElem?] at hlj ⊢
          rwa [Array.getElem?_setIfInBounds_ne (Ne.symm hji)] at hlj

/-- May the operation make a new object? -/
def mayAl : Op → Bool
  | .alloc _ | .box .. | .buildSlice .. | .makeSlice .. | .makeMap .. | .range .. | .convert .. => true
  | .call { callee := .builtin b, .. } => match b with | .append => true | _ => false
  | _ => false

def alOf : List Oper → Nat → List Nat
  | [], _ => []
  | o :: l, i => if mayAl o.op then i :: alOf l (i + 1) else alOf l (i + 1)

/-- New places at the store's end, for a region's new objects. -/
def placesFor (g : Nat → Nat) : List Nat → Nat → List SO
  | [], _ => []
  | _ :: l, k => .pend (g k) :: placesFor g l (k + 1)

theorem placesFor_get (g : Nat → Nat) : ∀ (l : List Nat) (k i : Nat) (o : SO), (placesFor g l k)[i]? = some o → o = .pend (g (k + i))
  | [], _, _, _, h => by simp [placesFor] at h
  | _ :: l, k, 0, o, h => by simp [placesFor] at h; exact h.symm
  | _ :: l, k, i + 1, o, h => by
    simp only [placesFor, List.getElem?_cons_succ] at h
    have := placesFor_get g l (k + 1) i o h
    rw [this]
    congr 2
    omega

theorem Mut_places {pl : Nat → Nat → Pl} {S : List SO} {g : Nat → Nat} {l : List Nat} {b : Nat} : Mut pl (S ++ placesFor g l 0) b ↔ Mut pl S b := by
  constructor
  · rintro ⟨i, o, g', hi, hg, hp⟩
    by_cases h : i < S.length
    · rw [List.getElem?_append_left h] at hi; exact ⟨i, o, g', hi, hg, hp⟩
    · rw [List.getElem?_append_right (by omega)] at hi
      have := placesFor_get g l 0 _ o hi
      subst this
      cases hg
  · rintro ⟨i, o, g', hi, hg, hp⟩
    exact ⟨i, o, g', by rw [List.getElem?_append_left (List.getElem?_eq_some_iff.1 hi).1]; exact hi, hg, hp⟩

theorem cx_places {w : World} {pl : Nat → Nat → Pl} {S : List SO} {g : Nat → Nat} {l : List Nat} : cxOf w pl (S ++ placesFor g l 0) = cxOf w pl S := by
  unfold cxOf
  congr 1
  funext b
  exact propext Mut_places

theorem Agree.places {W0 : World} {pl : Nat → Nat → Pl} {e : List DV} {S : List SO} {a : Act} {w : World} (h : Agree W0 pl e S a w) (l : List Nat) :
    ∃ g : Nat → Nat, Agree W0 pl e (S ++ placesFor g l 0) a w := by
  refine ⟨fun k => Classical.choose (h.good.fresh (S.length + k)), h.len, by rw [cx_places]; exact h.env, ?_, h.defers⟩
  have hg := h.good
  refine ⟨hg.below, ?_, ?_, ?_, hg.fresh⟩
  · intro i o hi
    rw [cx_places]
    by_cases hlt : i < S.length
    · rw [List.getElem?_append_left hlt] at hi; exact hg.objs i o hi
    · rw [List.getElem?_append_right (by omega)] at hi
      have := placesFor_get _ l 0 _ o hi
      subst this
      have hs := Classical.choose_spec (hg.fresh (S.length + (0 + (i - S.length)))) _ (Nat.le_refl _)
      rw [show S.length + (0 + (i - S.length)) = i by omega] at hs
      show pl i _ = .un
      rw [show (0 + (i - S.length)) = i - S.length by omega, show S.length + (i - S.length) = i by omega]
      exact hs
  · intro i j o o' g g' b hi hj hog hog' hp hp'
    by_cases hlt : i < S.length
    · by_cases hlt' : j < S.length
      · rw [List.getElem?_append_left hlt] at hi
        rw [List.getElem?_append_left hlt'] at hj
        exact hg.inj i j o o' g g' b hi hj hog hog' hp hp'
      · rw [List.getElem?_append_right (by omega)] at hj
        have := placesFor_get _ l 0 _ o' hj
        subst this
        cases hog'
    · rw [List.getElem?_append_right (by omega)] at hi
      have := placesFor_get _ l 0 _ o hi
      subst this
      cases hog
  · intro b hb
    exact hg.high b (Mut_places.1 hb)

theorem Agree.drew {W0 : World} {pl : Nat → Nat → Pl} {e : List DV} {S : List SO} {a : Act} {w : World} (h : Agree W0 pl e S a w) : Agree W0 pl e S a { w with drawn := w.drawn + 1 } :=
  ⟨h.len, h.env, ⟨⟨h.good.below.os, h.good.below.tape, h.good.below.output, h.good.below.size, h.good.below.block⟩, h.good.objs, h.good.inj, h.good.high, h.good.fresh⟩, h.defers⟩

def Pn (A : Ac) (d : DV) (S : List SO) : Prop := A.post (.pan d) S

/-- The region that stands in a function's code. -/
def rgOf (A : Ac) (opR : (Operand → DV) → Oper → OpR) (arr : Array Oper) (F : Fl) (base : Nat) (al : List Nat) (ks : List Kt) : Rg := ⟨A.P, A.W0, opR, arr, F, base, al, Sk A ks, Pn A⟩

theorem Pn_exit {A : Ac} {ks : List Kt} {pl : Nat → Nat → Pl} {d : DV} {S : List SO} {a : Act} {w : World} {p : PanicEntry} (h : Pn A d S) (hg : Good A.W0 pl S w) (hd : a.defers = []) (hr : Rep (cxOf w pl S) d p.v)
    (h1 : p.recovered = false) (h2 : p.goexit = false) (hc : CxLe A.c0 (cxOf w pl S)) : ExitK A ks (.panic [p]) a w :=
  ExitK_panic A [p] ks a w ⟨hd, .pan d, S, pl, h, hg, hc, hr, h1, h2⟩

section region
variable {A : Ac} {opR : (Operand → DV) → Oper → OpR} {ks : List Kt} {e : List DV} {S : List SO} {arr : Array Oper} {id : Nat}

theorem Sk_region (hop : ∀ e o, OpOk A.P A.W0 e o (opR (evD e) o)) {al : List Nat} (h : ∀ g : Nat → Nat, WD (rgOf A opR arr ⟨false, []⟩ S.length al ks) [] (List.range arr.size) e (S ++ placesFor g al 0)) :
    Sk A (.code (.region id arr false) :: ks) e S := by
  intro pl a w ha hc
  simp only [ExitK, Exit.then]
  obtain ⟨g, ha'⟩ := ha.places al
  refine wp_region (WD_sound (rgOf A opR arr ⟨false, []⟩ S.length al ks) hop (c0 := A.c0) ?_ ?_ _ _ _ _ pl a w (h g) ha' (by rw [cx_places]; exact hc))
  · intro pl e S a w hk ha hc; exact hk pl a w ha hc
  · intro pl d S a w p hp hg hd hr h1 h2 hc; exact Pn_exit hp hg hd hr h1 h2 hc

theorem Sk_region_draw (hm : A.P.follows .mixedOrders = true) (hop : ∀ e o, OpOk A.P A.W0 e o (opR (evD e) o)) {al : List Nat} {un : List (Nat × Nat)} {scl : Oper → Nat} (hloc : ∀ ev ev' o, (∀ x ∈ o.op.operands, ev x = ev' x) → opR ev o = opR ev' o)
    (hs : (∀ ev o, scl o = 0 → (∃ p d, opR ev o = .need p d) ∨ opR ev o = .bad) ∧ (∀ ev o, scl o = 1 → (∃ p d, opR ev o = .need p d) ∨ (∃ j h, opR ev o = .rd j h) ∨ opR ev o = .bad))
    (hreg : regOk scl un arr = true) (h : ∀ g : Nat → Nat, WD (rgOf A opR arr ⟨true, un⟩ S.length al ks) [] (List.range arr.size) e (S ++ placesFor g al 0)) :
    Sk A (.code (.region id arr true) :: ks) e S := by
  intro pl a w ha hc
  simp only [ExitK, Exit.then]
  obtain ⟨g, ha'⟩ := ha.drew.places al
  have hl : leftOf arr.size (Array.replicate arr.size false) = List.range arr.size := by
    unfold leftOf
    rw [List.filter_eq_self]
    intro i hi
    rw [Array.getD_eq_getD_getElem?, Array.getElem?_replicate, if_pos (by simpa using hi)]
    rfl
  refine wp_region_any hm (WD_any (rgOf A opR arr ⟨true, un⟩ S.length al ks) (scl := scl) hop hloc hs rfl hreg (c0 := A.c0) ?_ ?_ _ _ [] e _ pl a _ (by simp [rgOf]) ?_ ?_ (fun _ => rfl) ?_ ha' ?_)
  · intro pl e S a w hk ha hc; exact hk pl a w ha hc
  · intro pl d S a w p hp hg hd hr h1 h2 hc; exact Pn_exit hp hg hd hr h1 h2 hc
  · show (leftOf arr.size (Array.replicate arr.size false)).length = arr.size
    rw [hl]; simp
  · intro j o _ hj
    rw [Array.getD_eq_getD_getElem?, Array.getElem?_replicate] at hj
    split at hj <;> cases hj
  · show WD _ [] (leftOf arr.size (Array.replicate arr.size false)) e _
    rw [hl]; exact h g
  · rw [cx_places]; exact hc
end region
end Go.Dv
/-
  What each operation does with deep values, and that it does: numbers, texts, structs, memory.
-/
namespace Go.Dv
set_option linter.unusedVariables false
set_option linter.unusedSimpArgs false
open Go Go.RowKit

/-! ### what is asked of types -/
def szO (P : Program) (t : TypeId) : Option Nat := (P.info? t).map (·.size)
def aggDesc : TypeDesc → Bool
  | .struct _ | .array _ _ => true
  | _ => false
def aggO (P : Program) (t : TypeId) : Option Bool := (P.underlying t).map aggDesc
def zeroO (P : Program) (t : TypeId) : Option (List Value) := (P.info? t).bind fun i => i.zero.map fun z => z.cells.toList
def fldO (P : Program) (t : TypeId) (f : Nat) : Option (Nat × TypeId) := match P.underlying t with
  | some (.struct fs) => (fs[f]?).bind fun f => if (szO P f.type).getD 0 = 0 then none else some (f.offset, f.type)
  | _ => none
def slO (P : Program) (t : TypeId) : Option TypeId := match P.underlying t with | some (.slice e) => some e | _ => none
def arO (P : Program) (t : TypeId) : Option (Nat × TypeId) := match P.underlying t with | some (.array n e) => some (n, e) | _ => none
def isStr (P : Program) (t : TypeId) : Bool := match P.underlying t with | some .string => true | _ => false
def isBool (P : Program) (t : TypeId) : Bool := match P.underlying t with | some .bool => true | _ => false
def isPtr (P : Program) (t : TypeId) : Bool := match P.underlying t with | some (.pointer _) => true | _ => false
def isIface (P : Program) (t : TypeId) : Bool := match P.underlying t with | some (.interface _) => true | _ => false
def isFunc (P : Program) (t : TypeId) : Bool := match P.underlying t with | some (.func ..) => true | _ => false
def intO (P : Program) (t : TypeId) : Option IntKind := match P.underlying t with | some (.int k) => some k | _ => none
def hasBody (P : Program) (f : FuncId) : Bool := match P.funcs[f]? with | some fn => fn.body.isSome && !(fn.name == "runtime.NumGoroutine") | none => false

section
variable {P : Program} {w : World}
theorem run_sizeOf {t n : Nat} (h : szO P t = some n) : (sizeOf t).run P w = .ok n w := by
  unfold szO at h
  cases hi : P.info? t with
  | none => rw [hi] at h; cases h
  | some i => rw [hi] at h; simp at h; simp [sizeOf, typeInfo, hi, h]
theorem run_isAgg {t : Nat} {b : Bool} (h : aggO P t = some b) : (isAgg t).run P w = .ok b w := by
  unfold aggO at h
  cases hi : P.underlying t with
  | none => rw [hi] at h; cases h
  | some d =>
    rw [hi] at h
    simp only [Option.map_some, Option.some.injEq] at h
    subst h
    simp only [isAgg, Sem.run_bind, run_underlying hi, Result.andThen_ok]
    cases d <;> rfl
theorem run_zeroCells {t : Nat} {z : List Value} (h : zeroO P t = some z) : ∃ v, (zeroValue t).run P w = .ok v w ∧ v.cells.toList = z := by
  unfold zeroO at h
  cases hi : P.info? t with
  | none => rw [hi] at h; cases h
  | some i =>
    rw [hi] at h
    simp only [Option.bind_some, Option.map_eq_some_iff] at h
    obtain ⟨v, hv, rfl⟩ := h
    exact ⟨v, by simp [zeroValue, typeInfo, hi, hv], rfl⟩
theorem sl_under {t e : Nat} (h : slO P t = some e) : P.underlying t = some (.slice e) := by
  unfold slO at h
  split at h
  · cases h; assumption
  · cases h
theorem ar_under {t n e : Nat} (h : arO P t = some (n, e)) : P.underlying t = some (.array n e) := by
  unfold arO at h
  split at h
  · cases h; assumption
  · cases h
theorem str_under {t : Nat} (h : isStr P t = true) : P.underlying t = some .string := by
  unfold isStr at h
  split at h
  · assumption
  · cases h
theorem bool_under {t : Nat} (h : isBool P t = true) : P.underlying t = some .bool := by
  unfold isBool at h
  split at h
  · assumption
  · cases h
theorem int_under {t : Nat} {k : IntKind} (h : intO P t = some k) : P.underlying t = some (.int k) := by
  unfold intO at h
  split at h
  · cases h; assumption
  · cases h
theorem ptr_under {t : Nat} (h : isPtr P t = true) : ∃ e, P.underlying t = some (.pointer e) := by
  unfold isPtr at h
  split at h
  · exact ⟨_, by assumption⟩
  · cases h
theorem iface_under {t : Nat} (h : isIface P t = true) : ∃ e, P.underlying t = some (.interface e) := by
  unfold isIface at h
  split at h
  · exact ⟨_, by assumption⟩
  · cases h
theorem iface_under' {t : Nat} (h : isIface P t = false) {e : Array (String × TypeId)} : P.underlying t ≠ some (.interface e) := by
  intro h2
  simp [isIface, h2] at h
theorem func_under {t : Nat} (h : isFunc P t = true) : ∃ a b c, P.underlying t = some (.func a b c) := by
  unfold isFunc at h
  split at h
  · exact ⟨_, _, _, by assumption⟩
  · cases h
theorem fld_under {t f o ft : Nat} (h : fldO P t f = some (o, ft)) : ∃ fs fd, P.underlying t = some (.struct fs) ∧ fs[f]? = some fd ∧ fd.offset = o ∧ fd.type = ft ∧ ∃ n, szO P ft = some (n + 1) := by
  unfold fldO at h
  split at h
  · rename_i fs hu
    cases hf : fs[f]? with
    | none => rw [hf] at h; cases h
    | some fd =>
      rw [hf] at h
      simp only [Option.bind_some] at h
      split at h
      · cases h
      · cases h
        rename_i hne
        refine ⟨fs, fd, hu, hf, rfl, rfl, ?_⟩
        cases hs : szO P fd.type with
        | none => simp [hs] at hne
        | some n =>
          cases n with
          | zero => simp [hs] at hne
          | succ n => exact ⟨n, rfl⟩
  · cases h
end

/-! ### cells -/
def takeN : Nat → List DV → Option (List DV)
  | 0, _ => some []
  | _ + 1, [] => none
  | n + 1, d :: ds => (takeN n ds).map (d :: ·)
def takeD (b : Bool) (n : Nat) (cs : List DV) : Option DV := match b with
  | true => (takeN n cs).map DV.agg
  | false => match cs with | d :: _ => some d | [] => none

theorem addOff (b o i : Nat) : (⟨b, o, none⟩ : Addr).add i = ⟨b, o + i, none⟩ := by unfold Addr.add; split <;> simp_all

theorem takeN_len : ∀ {n : Nat} {cs ds : List DV}, takeN n cs = some ds → ds.length = n
  | 0, _, _, h => by simp [takeN] at h; simp [h]
  | n + 1, [], _, h => by simp [takeN] at h
  | n + 1, c :: cs, ds, h => by
    simp only [takeN, Option.map_eq_some_iff] at h
    obtain ⟨es, h1, rfl⟩ := h
    simp [takeN_len h1]

theorem takeN_rep {C : Cx} : ∀ {n : Nat} {cs ds : List DV} {vs : List Value}, takeN n cs = some ds → RepL C cs vs → RepL C ds (vs.take n) ∧ n ≤ vs.length
  | 0, _, _, _, h, _ => by simp [takeN] at h; subst h; simp [RepL]
  | n + 1, [], _, _, h, _ => by simp [takeN] at h
  | n + 1, c :: cs, ds, [], h, r => by simp only [RepL] at r
  | n + 1, c :: cs, ds, v :: vs, h, r => by
    simp only [takeN, Option.map_eq_some_iff] at h
    obtain ⟨es, h1, rfl⟩ := h
    simp only [RepL] at r
    have := takeN_rep h1 r.2
    simp only [List.take_succ_cons, RepL]
    exact ⟨⟨r.1, this.1⟩, by simp; exact this.2⟩

theorem load_ok {P : Program} {w : World} {C : Cx} (hC : C.heap = w.heap) {t n : Nat} {b : Bool} (hn : szO P t = some n) (hb : aggO P t = some b) {blk off : Nat} {c : Array Value} {T : TypeId} {fr : Nat × Nat}
    (hh : C.heap[blk]? = some (.cells c T fr)) {cs : List DV} (hr : RepL C cs (c.toList.drop off)) {d : DV} (ht : takeD b n cs = some d) : ∃ v, (loadVar t ⟨blk, off, none⟩).run P w = .ok v w ∧ Rep C d v := by
  rw [hC] at hh
  cases b with
  | true =>
    simp only [takeD, Option.map_eq_some_iff] at ht
    obtain ⟨ds, h1, rfl⟩ := ht
    obtain ⟨h2, h3⟩ := takeN_rep h1 hr
    have hl := run_loadCells_list (P := P) w ⟨blk, off, none⟩ ((c.toList.drop off).take n) (fun j v hv => by
      rw [addOff, cell_of_row w blk (off + j) c T fr hh]
      rw [List.getElem?_take] at hv
      split at hv
      · rw [List.getElem?_drop] at hv
        rw [← Array.getElem?_toList]; exact hv
      · cases hv)
    have hlen : ((c.toList.drop off).take n).length = n := by rw [List.length_take]; omega
    rw [hlen] at hl
    refine ⟨.agg ((c.toList.drop off).take n).toArray, ?_, ?_⟩
    · simp [loadVar, run_isAgg hb, run_sizeOf hn, hl]
    · simp only [Rep]
      exact ⟨_, rfl, by rw [hlen, takeN_len h1], h2⟩
  | false =>
    cases cs with
    | nil => simp [takeD] at ht
    | cons d' ds =>
      simp only [takeD, Option.some.injEq] at ht
      subst ht
      cases hv : c.toList.drop off with
      | nil => rw [hv] at hr; simp only [RepL] at hr
      | cons v vs =>
        rw [hv] at hr
        simp only [RepL] at hr
        refine ⟨v, ?_, hr.1⟩
        have : c[off]? = some v := by
          rw [← Array.getElem?_toList]
          have := congrArg (fun l => l[0]?) hv
          simpa using this
        simp [loadVar, run_isAgg hb, run_load, cell_of_row w blk off c T fr hh, this]

/-- A value of one cell. -/
def oneD : DV → Bool
  | .raw v => v.oneCell'
  | .junk | .agg _ | .tup _ => false
  | _ => true

theorem oneD_ok {C : Cx} {d : DV} {v : Value} (h : oneD d = true) (r : Rep C d v) : v.oneCell' = true := by
  cases d with
  | raw u => simp only [Rep] at r; subst r; exact h
  | junk => cases h
  | agg _ => cases h
  | tup _ => cases h
  | imm _ => simp only [Rep] at r; obtain ⟨_, _, _, _, _, rfl, _⟩ := r; rfl
  | lst _ _ _ => simp only [Rep] at r; obtain ⟨_, _, rfl, _⟩ := r; rfl
  | loc _ _ _ => simp only [Rep] at r; obtain ⟨_, _, rfl⟩ := r; rfl
  | el _ _ _ _ _ => simp only [Rep] at r; obtain ⟨_, _, rfl⟩ := r; rfl
  | row _ _ _ _ _ => simp only [Rep] at r; rcases r with ⟨_, _, _, _, rfl⟩ | ⟨_, _, _, _, _, _, _, rfl, _⟩ <;> rfl
  | fn _ _ _ => simp only [Rep] at r; obtain ⟨_, _, rfl, _⟩ := r; rfl
  | ifc _ _ => simp only [Rep] at r; obtain ⟨_, rfl, _⟩ := r; rfl
  | mapp _ _ => simp only [Rep] at r; obtain ⟨_, _, rfl⟩ := r; rfl

/-- The cells of a value. -/
def cellsD : DV → Option (List DV)
  | .agg cs => some cs
  | .raw (.agg a) => some (a.toList.map DV.raw)
  | .raw v => some [.raw v]
  | .junk => none
  | d => some [d]

theorem RepL_raw {C : Cx} : ∀ (vs : List Value), RepL C (vs.map DV.raw) vs
  | [] => by simp only [List.map_nil, RepL]
  | v :: vs => by simp only [List.map_cons, RepL, Rep, true_and]; exact RepL_raw vs

theorem cellsD_ok {C : Cx} {d : DV} {v : Value} {cs : List DV} (h : cellsD d = some cs) (r : Rep C d v) : RepL C cs v.cells.toList ∧ v.cells.size = cs.length := by
  cases d with
  | raw u =>
    simp only [Rep] at r
    subst r
    cases v <;> (simp only [cellsD, Option.some.injEq] at h; subst h; first | exact ⟨by simp [Value.cells, RepL, Rep], rfl⟩ | exact ⟨by simp only [Value.cells]; exact RepL_raw _, by simp [Value.cells]⟩)
  | junk => cases h
  | agg ds =>
    simp only [Rep] at r
    obtain ⟨vs, rfl, h1, h2⟩ := r
    cases h
    exact ⟨by simpa [Value.cells] using h2, by simpa [Value.cells] using h1⟩
  | tup ds =>
    have hr := r
    simp only [Rep] at r
    obtain ⟨vs, rfl, h1, h2⟩ := r
    cases h
    exact ⟨by simp only [Value.cells, RepL, and_true]; exact hr, rfl⟩
  | _ =>
    have hr := r
    have h1 := oneD_ok (C := C) rfl r
    cases h
    cases v <;> first | (cases h1; done) | exact ⟨by simp only [Value.cells, RepL, and_true]; exact hr, rfl⟩

/-! ### writing an object -/
/-- The cells from off on are those. -/
def putAt : List DV → Nat → List DV → List DV
  | cs, _, [] => cs
  | cs, off, d :: ds => putAt (cs.set off d) (off + 1) ds

theorem putAt_len : ∀ (ds cs : List DV) (off : Nat), (putAt cs off ds).length = cs.length
  | [], _, _ => rfl
  | d :: ds, cs, off => by simp only [putAt]; rw [putAt_len ds]; simp

/-- A block's cells turned. -/
def turnTo (c : Array Value) : Obj → Obj
  | .cells _ T fr => .cells c T fr
  | o => o
def World.setBlk (w : World) (b : Nat) (c : Array Value) : World := { w with heap := w.heap.modify b (turnTo c) }

theorem setBlk_get {w : World} {b : Nat} {c0 c : Array Value} {T : TypeId} {fr : Nat × Nat} (h : w.heap[b]? = some (.cells c0 T fr)) (k : Nat) :
    (World.setBlk w b c).heap[k]? = if k = b then some (.cells c T fr) else w.heap[k]? := by
  simp only [World.setBlk, Array.getElem?_modify]
  split
  · rename_i hk; subst hk; simp [h, turnTo]
  · rename_i hk; rw [if_neg (fun e => hk e.symm)]

theorem setCell_setBlk {w : World} {b off : Nat} {c : Array Value} {T : TypeId} {fr : Nat × Nat} (h : w.heap[b]? = some (.cells c T fr)) (v : Value) :
    w.setCell ⟨b, off, none⟩ v = World.setBlk w b (c.setIfInBounds off v) := by
  unfold World.setCell World.setBlk
  congr 1
  apply Array.ext_getElem?
  intro k
  simp only [Array.getElem?_modify]
  split
  · rename_i hk; subst hk; simp [h, turnTo]
  · rfl

theorem setBlk_self {w : World} {b : Nat} {c : Array Value} {T : TypeId} {fr : Nat × Nat} (h : w.heap[b]? = some (.cells c T fr)) : World.setBlk w b c = w := by
  have : w.heap.modify b (turnTo c) = w.heap := by
    apply Array.ext_getElem?
    intro k
    rw [Array.getElem?_modify]
    split
    · rename_i hk; subst hk; rw [h]; rfl
    · rfl
  unfold World.setBlk
  rw [this]

theorem setBlk_setBlk {w : World} {b : Nat} {c c' : Array Value} : World.setBlk (World.setBlk w b c) b c' = World.setBlk w b c' := by
  unfold World.setBlk
  congr 1
  apply Array.ext_getElem?
  intro k
  simp only [Array.getElem?_modify]
  split
  · cases w.heap[k]? with
    | none => rfl
    | some o => cases o <;> rfl
  · rfl

/-- An object's block has turned, all else stands: what was known of the store is known of the new one. -/
theorem Good.turn {W0 : World} {pl : Nat → Nat → Pl} {S : List SO} {w : World} (hg : Good W0 pl S w) {j : Nat} {so so' : SO} {g b : Nat} (hs : S[j]? = some so) (hgen : so.gen = some g) (hgen' : so'.gen = some g)
    (hp : pl j g = .blk b) {c c' : Array Value} {T : TypeId} {fr : Nat × Nat} (hh : w.heap[b]? = some (.cells c T fr)) (hsz : c'.size = c.size)
    (hok : ∀ C : Cx, CxLe (cxOf w pl S) C → C.pl = pl → C.heap[b]? = some (.cells c' T fr) → ObjOk C j so') :
    Good W0 pl (S.set j so') (World.setBlk w b c') ∧ CxLe (cxOf w pl S) (cxOf (World.setBlk w b c') pl (S.set j so')) := by
  have hmut : ∀ x, Mut pl (S.set j so') x ↔ Mut pl S x := by
    intro x
    have hj := (List.getElem?_eq_some_iff.1 hs).1
    constructor
    · rintro ⟨i, o, g1, h1, h2, h3⟩
      rw [List.getElem?_set] at h1
      split at h1
      · rename_i he; subst he
        cases h1
        rw [hgen'] at h2
        cases h2
        exact ⟨j, so, g, hs, hgen, h3⟩
      · exact ⟨i, o, g1, h1, h2, h3⟩
    · rintro ⟨i, o, g1, h1, h2, h3⟩
      by_cases he : i = j
      · subst he
        rw [hs] at h1
        cases h1
        rw [hgen] at h2
        cases h2
        exact ⟨i, so', g, by rw [List.getElem?_set_self hj], hgen', h3⟩
      · exact ⟨i, o, g1, by rw [List.getElem?_set_ne (Ne.symm he)]; exact h1, h2, h3⟩
  have hmb : Mut pl S b := ⟨j, so, g, hs, hgen, hp⟩
  have hget := setBlk_get (c := c') hh
  have hle : CxLe (cxOf w pl S) (cxOf (World.setBlk w b c') pl (S.set j so')) := by
    refine ⟨fun _ _ _ => rfl, ?_, ?_⟩
    · intro x o hx hm
      refine ⟨?_, fun h => hm ((hmut x).1 h)⟩
      show (World.setBlk w b c').heap[x]? = some o
      rw [hget, if_neg (fun e => hm (by subst e; exact hmb))]
      exact hx
    · intro x c1 T1 fr1 hx
      show ∃ c2 f2, (World.setBlk w b c').heap[x]? = some (.cells c2 T1 f2) ∧ c2.size = c1.size
      rw [hget]
      by_cases he : x = b
      · subst he
        have hx' : w.heap[x]? = some (.cells c1 T1 fr1) := hx
        rw [hh] at hx'
        cases hx'
        exact ⟨c', fr, by rw [if_pos rfl], hsz⟩
      · exact ⟨c1, fr1, by rw [if_neg he]; exact hx, rfl⟩
  refine ⟨⟨?_, ?_, ?_, ?_, hg.fresh⟩, hle⟩
  · refine hg.below.trans ⟨rfl, rfl, rfl, by simp [World.setBlk], fun k hk => ?_⟩
    rw [hget, if_neg]
    rintro rfl
    have := (hg.high _ hmb).1
    omega
  · intro i o hi
    by_cases he : i = j
    · subst he
      rw [List.getElem?_set_self (List.getElem?_eq_some_iff.1 hs).1] at hi
      cases hi
      exact hok _ hle rfl (by show (World.setBlk w b c').heap[b]? = _; rw [hget, if_pos rfl])
    · rw [List.getElem?_set_ne (Ne.symm he)] at hi
      have ho := hg.objs i o hi
      refine ho.mono hle (fun g1 hg1 => by subst hg1; exact ho) ?_
      rintro x ⟨g1, h1, h2⟩
      show (World.setBlk w b c').heap[x]? = w.heap[x]?
      rw [hget, if_neg]
      rintro rfl
      exact he (hg.inj i j o so g1 g x hi hs h1 hgen h2 hp)
  · intro i k o o' g1 g2 x hi hk h1 h2 h3 h4
    have key : ∀ {i : Nat} {o : SO} {g1 : Nat}, (S.set j so')[i]? = some o → o.gen = some g1 → ∃ o1, S[i]? = some o1 ∧ o1.gen = some g1 := by
      intro i o g1 hi h1
      by_cases he : i = j
      · subst he
        rw [List.getElem?_set_self (List.getElem?_eq_some_iff.1 hs).1] at hi
        cases hi
        rw [hgen'] at h1
        cases h1
        exact ⟨so, hs, hgen⟩
      · rw [List.getElem?_set_ne (Ne.symm he)] at hi
        exact ⟨o, hi, h1⟩
    obtain ⟨o1, hi1, hg1⟩ := key hi h1
    obtain ⟨o2, hi2, hg2⟩ := key hk h2
    exact hg.inj i k o1 o2 g1 g2 x hi1 hi2 hg1 hg2 h3 h4
  · intro x hx
    have := hg.high x ((hmut x).1 hx)
    refine ⟨this.1, ?_⟩
    simp only [World.setBlk, Array.size_modify]
    exact this.2

/-- A new block for a place that waits. -/
theorem Good.new {W0 : World} {pl : Nat → Nat → Pl} {S : List SO} {w : World} (hg : Good W0 pl S w) {j g : Nat} {so' : SO} (hs : S[j]? = some (.pend g)) (hgen' : so'.gen = some g) (ob : Obj)
    (hok : ∀ C : Cx, CxLe (cxOf w pl S) C → C.pl j g = .blk w.heap.size → C.heap[w.heap.size]? = some ob → ObjOk C j so') :
    Good W0 (fun i g' => if i = j ∧ g' = g then .blk w.heap.size else pl i g') (S.set j so') (w.alloc ob) ∧
    CxLe (cxOf w pl S) (cxOf (w.alloc ob) (fun i g' => if i = j ∧ g' = g then .blk w.heap.size else pl i g') (S.set j so')) := by
  have hun : pl j g = .un := hg.objs j _ hs
  have hj := (List.getElem?_eq_some_iff.1 hs).1
  have hold : ∀ i o g1, i ≠ j → S[i]? = some o → o.gen = some g1 → (if i = j ∧ g1 = g then Pl.blk w.heap.size else pl i g1) = pl i g1 := fun i o g1 hne _ _ => if_neg fun h => hne h.1
  have hmut : ∀ x, Mut (fun i g' => if i = j ∧ g' = g then .blk w.heap.size else pl i g') (S.set j so') x ↔ (x = w.heap.size ∨ Mut pl S x) := by
    intro x
    constructor
    · rintro ⟨i, o, g1, h1, h2, h3⟩
      by_cases he : i = j
      · subst he
        rw [List.getElem?_set_self hj] at h1
        cases h1
        rw [hgen'] at h2
        cases h2
        simp only [and_self, if_true] at h3
        cases h3
        exact .inl rfl
      · rw [List.getElem?_set_ne (Ne.symm he)] at h1
        simp only [he, false_and, if_false] at h3
        exact .inr ⟨i, o, g1, h1, h2, h3⟩
    · rintro (rfl | ⟨i, o, g1, h1, h2, h3⟩)
      · exact ⟨j, so', g, by rw [List.getElem?_set_self hj], hgen', by simp⟩
      · have he : i ≠ j := by rintro rfl; rw [hs] at h1; cases h1; cases h2
        exact ⟨i, o, g1, by rw [List.getElem?_set_ne (Ne.symm he)]; exact h1, h2, by simp only [he, false_and, if_false]; exact h3⟩
  have hle : CxLe (cxOf w pl S) (cxOf (w.alloc ob) (fun i g' => if i = j ∧ g' = g then .blk w.heap.size else pl i g') (S.set j so')) := by
    refine ⟨?_, ?_, ?_⟩
    · intro i g1 hu
      show (if i = j ∧ g1 = g then Pl.blk w.heap.size else pl i g1) = pl i g1
      rw [if_neg]
      rintro ⟨rfl, rfl⟩
      exact hu hun
    · intro x o hx hm
      have hx' : w.heap[x]? = some o := hx
      have hlt : x < w.heap.size := (Array.getElem?_eq_some_iff.1 hx').1
      refine ⟨?_, fun h => ?_⟩
      · show (w.alloc ob).heap[x]? = some o
        rw [Below.heap_alloc _ _ _ hlt]; exact hx'
      · rcases (hmut x).1 h with rfl | h
        · omega
        · exact hm h
    · intro x c T fr hx
      have hx' : w.heap[x]? = some (.cells c T fr) := hx
      have hlt : x < w.heap.size := (Array.getElem?_eq_some_iff.1 hx').1
      exact ⟨c, fr, by show (w.alloc ob).heap[x]? = _; rw [Below.heap_alloc _ _ _ hlt]; exact hx', rfl⟩
  refine ⟨⟨?_, ?_, ?_, ?_, ?_⟩, hle⟩
  · exact hg.below.alloc hg.below.size ob
  · intro i o hi
    by_cases he : i = j
    · subst he
      rw [List.getElem?_set_self hj] at hi
      cases hi
      refine hok _ hle (by show (if i = i ∧ g = g then _ else _) = _; simp) ?_
      show (w.alloc ob).heap[w.heap.size]? = some ob
      exact heap_alloc_new w ob
    · rw [List.getElem?_set_ne (Ne.symm he)] at hi
      have ho := hg.objs i o hi
      refine ho.mono hle (fun g1 hg1 => ?_) ?_
      · subst hg1
        show (if i = j ∧ g1 = g then Pl.blk w.heap.size else pl i g1) = .un
        rw [if_neg (fun h => he h.1)]
        exact ho
      · rintro x ⟨g1, h1, h2⟩
        have := (hg.high x ⟨i, o, g1, hi, h1, h2⟩).2
        exact Below.heap_alloc _ _ _ this
  · intro i k o o' g1 g2 x hi hk h1 h2 h3 h4
    by_cases he : i = j
    · by_cases he2 : k = j
      · rw [he, he2]
      · subst he
        rw [List.getElem?_set_self hj] at hi
        cases hi
        rw [hgen'] at h1
        cases h1
        simp only [and_self, if_true] at h3
        cases h3
        rw [List.getElem?_set_ne (Ne.symm he2)] at hk
        simp only [he2, false_and, if_false] at h4
        have := (hg.high _ ⟨k, o', g2, hk, h2, h4⟩).2
        omega
    · rw [List.getElem?_set_ne (Ne.symm he)] at hi
      simp only [he, false_and, if_false] at h3
      by_cases he2 : k = j
      · subst he2
        rw [List.getElem?_set_self hj] at hk
        cases hk
        rw [hgen'] at h2
        cases h2
        simp only [and_self, if_true] at h4
        cases h4
        have := (hg.high _ ⟨i, o, g1, hi, h1, h3⟩).2
        omega
      · rw [List.getElem?_set_ne (Ne.symm he2)] at hk
        simp only [he2, false_and, if_false] at h4
        exact hg.inj i k o o' g1 g2 x hi hk h1 h2 h3 h4
  · intro x hx
    rcases (hmut x).1 hx with rfl | h
    · exact ⟨hg.below.size, by simp⟩
    · have := hg.high x h
      exact ⟨this.1, by simp; omega⟩
  · intro i
    obtain ⟨g0, h0⟩ := hg.fresh i
    refine ⟨max g0 (g + 1), fun g1 hg1 => ?_⟩
    have h1 := Nat.le_trans (Nat.le_max_left g0 (g + 1)) hg1
    have h2 := Nat.le_trans (Nat.le_max_right g0 (g + 1)) hg1
    show (if i = j ∧ g1 = g then Pl.blk w.heap.size else pl i g1) = .un
    rw [if_neg (fun h => by omega)]
    exact h0 g1 h1
end Go.Dv
/-
  What each operation does with deep values: the table, and that it holds of the model.
-/
namespace Go.Dv
set_option linter.unusedVariables false
set_option linter.unusedSimpArgs false
open Go Go.RowKit

def tt (v : Value) : OpR := .need True (.raw v)

/-! ### integers, texts, truths -/
def intBin (op : BinOp) (k : IntKind) (a b : Int) : OpR :=
  match op with
  | .add => tt (.int k (k.wrap (a + b)))
  | .sub => tt (.int k (k.wrap (a - b)))
  | .mul => tt (.int k (k.wrap (a * b)))
  | .quo => .need (b ≠ 0) (.raw (.int k (k.wrap (a.tdiv b))))
  | .rem => .need (b ≠ 0) (.raw (.int k (a.tmod b)))
  | .and => tt (.int k (bits .and k a b))
  | .or => tt (.int k (bits .or k a b))
  | .xor => tt (.int k (bits .xor k a b))
  | .andNot => tt (.int k (bits .andNot k a b))
  | .eql => tt (.bool (a == b))
  | .neq => tt (.bool (a != b))
  | .lss => tt (.bool (decide (a < b)))
  | .leq => tt (.bool (decide (a ≤ b)))
  | .gtr => tt (.bool (decide (b < a)))
  | .geq => tt (.bool (decide (b ≤ a)))
  | .shl => .need (0 ≤ b) (.raw (.int k (k.wrap (a * 2 ^ min b.toNat k.bits))))
  | .shr => .need (0 ≤ b) (.raw (.int k (a.fdiv (2 ^ min b.toNat k.bits))))

def strBin (op : BinOp) (a b : ByteArray) : OpR :=
  match op with
  | .add => .need (a.size + b.size ≤ 9223372036854775807) (.raw (.string (a ++ b)))
  | .eql => tt (.bool (decide (a = b)))
  | .neq => tt (.bool (!decide (a = b)))
  | .lss => tt (.bool (Op.bytesLess a.toList b.toList))
  | .leq => tt (.bool (Op.bytesLess a.toList b.toList || decide (a = b)))
  | .gtr => tt (.bool (!(Op.bytesLess a.toList b.toList || decide (a = b))))
  | .geq => tt (.bool (!Op.bytesLess a.toList b.toList))
  | _ => .bad

/-- A struct whose fields are whole numbers (0), texts (1) and truths (2), each one cell. -/
def plainF (P : Program) : Nat → List Field → Option (List Nat)
  | _, [] => some []
  | n, f :: fs =>
    if f.name != "_" && f.offset == n && (aggO P f.type == some false) then
      match P.underlying f.type with
      | some (.int _) => (plainF P (n + 1) fs).map (0 :: ·)
      | some .string => (plainF P (n + 1) fs).map (1 :: ·)
      | some .bool => (plainF P (n + 1) fs).map (2 :: ·)
      | _ => none
    else none
def plainSt (P : Program) (t : TypeId) : Option (List Nat) := match P.underlying t with
  | some (.struct fs) => if !P.stoodInHeld t && !P.eqGuardType P.depth t then plainF P 0 fs.toList else none
  | _ => none

def eqL : List Nat → List DV → List DV → Option Bool
  | [], [], [] => some true
  | 0 :: ks, .raw (.int k a) :: xs, .raw (.int k' b) :: ys => if k = k' then (eqL ks xs ys).map fun r => a == b && r else none
  | 1 :: ks, .raw (.string a) :: xs, .raw (.string b) :: ys => (eqL ks xs ys).map fun r => decide (a = b) && r
  | 2 :: ks, .raw (.bool a) :: xs, .raw (.bool b) :: ys => (eqL ks xs ys).map fun r => a == b && r
  | _, _, _ => none

/-- Equal? co: is one of the two a constant? -/
def eqD (P : Program) (co : Bool) (t : TypeId) : DV → DV → Option Bool
  | .raw (.bool a), .raw (.bool b) => if isBool P t then some (a == b) else none
  | .raw (.pointer none), .raw (.pointer none) => if isPtr P t then some true else none
  | .raw (.pointer none), .imm _ | .raw (.pointer none), .loc .. | .imm _, .raw (.pointer none) | .loc .., .raw (.pointer none) => if isPtr P t then some false else none
  | .raw .nilFunc, .raw .nilFunc => if isFunc P t then some true else none
  | .raw .nilFunc, .fn .. | .fn .., .raw .nilFunc => if isFunc P t then some false else none
  | .raw .nilIface, .raw .nilIface => if isIface P t && co then some true else none
  | .raw .nilIface, .ifc .. | .ifc .., .raw .nilIface => if isIface P t then some false else none
  | .raw (.slice none 0 0), .raw (.slice none 0 0) => if (slO P t).isSome then some true else none
  | .lst _ _ (_ :: _), .raw (.slice none 0 0) | .raw (.slice none 0 0), .lst _ _ (_ :: _) => if (slO P t).isSome then some false else none
  | .raw (.slice (some _) _ _), .raw (.slice none 0 0) => if (slO P t).isSome then some false else none
  | .agg xs, .agg ys => match plainSt P t with | some ks => eqL ks xs ys | none => none
  | _, _ => none

def isCo : Operand → Bool
  | .const _ => true
  | _ => false

def binD (P : Program) (op : BinOp) (co : Bool) (t : TypeId) (x y : DV) : OpR :=
  match x, y with
  | .raw (.int k a), .raw (.int k' b) => match op with
    | .shl | .shr => intBin op k a b
    | _ => if k = k' then intBin op k a b else .bad
  | .raw (.string a), .raw (.string b) => strBin op a b
  | x, y => match op with
    | .eql => match eqD P co t x y with | some b => tt (.bool b) | none => .bad
    | .neq => match eqD P co t x y with | some b => tt (.bool (!b)) | none => .bad
    | _ => .bad

theorem beqB (a b : ByteArray) : (a.toList == b.toList) = decide (a = b) := by
  rw [Bool.eq_iff_iff, beq_iff_eq, decide_eq_true_iff, ByteArray.toList_eq, ByteArray.toList_eq]
  constructor
  · intro h; cases a; cases b; congr 1; exact Array.ext' h
  · rintro rfl; rfl

section
variable {P : Program} {w : World}

theorem run_intBin {op : BinOp} {k k' : IntKind} {a b : Int} {t : TypeId} (hk : k = k' ∨ op = .shl ∨ op = .shr) {p : Prop} {d : DV} (h : intBin op k a b = .need p d) (hp : p) :
    ∃ v, (binOp op t (.int k a) (.int k' b)).run P w = .ok v w ∧ d = .raw v := by
  cases op
  case shl =>
    simp only [intBin, OpR.need.injEq] at h
    obtain ⟨rfl, rfl⟩ := h
    exact ⟨_, by simp [binOp, Op.shift, Int.not_lt.2 hp], rfl⟩
  case shr =>
    simp only [intBin, OpR.need.injEq] at h
    obtain ⟨rfl, rfl⟩ := h
    exact ⟨_, by simp [binOp, Op.shift, Int.not_lt.2 hp], rfl⟩
  case quo =>
    simp only [intBin, OpR.need.injEq] at h
    obtain ⟨rfl, rfl⟩ := h
    obtain rfl : k = k' := hk.resolve_right (by simp)
    exact ⟨_, by simp [binOp, Op.intDiv, hp], rfl⟩
  case rem =>
    simp only [intBin, OpR.need.injEq] at h
    obtain ⟨rfl, rfl⟩ := h
    obtain rfl : k = k' := hk.resolve_right (by simp)
    exact ⟨_, by simp [binOp, Op.intDiv, hp], rfl⟩
  all_goals
    simp only [intBin, tt, OpR.need.injEq] at h
    obtain ⟨_, rfl⟩ := h
    obtain rfl : k = k' := hk.resolve_right (by simp)
    first
      | exact ⟨_, by simp only [binOp, ne_eq, not_true_eq_false, if_false, Op.intArith]; rfl, rfl⟩
      | exact ⟨_, by simp only [binOp, ne_eq, not_true_eq_false, if_false, Op.intCmp]; rfl, rfl⟩
      | exact ⟨_, by simp only [binOp, ne_eq, not_true_eq_false, if_false, Op.intBits, bits]; rfl, rfl⟩

theorem run_strBin {op : BinOp} {a b : ByteArray} {t : TypeId} {p : Prop} {d : DV} (h : strBin op a b = .need p d) (hp : p) :
    ∃ v, (binOp op t (.string a) (.string b)).run P w = .ok v w ∧ d = .raw v := by
  cases op
  case add =>
    simp only [strBin, OpR.need.injEq] at h
    obtain ⟨rfl, rfl⟩ := h
    refine ⟨_, ?_, rfl⟩
    simp only [binOp, Op.stringOp]
    rw [if_neg]
    · rfl
    · have : IntKind.i64.max = 9223372036854775807 := rfl
      rw [this]
      omega
  all_goals
    first
      | (simp [strBin] at h; done)
      | (simp only [strBin, tt, OpR.need.injEq] at h
         obtain ⟨_, rfl⟩ := h
         exact ⟨_, by simp only [binOp, Op.stringOp, beqB]; rfl, rfl⟩)

theorem run_part {t off : Nat} {cs : Array Value} {v : Value} (h : aggO P t = some false) (hv : cs[off]? = some v) : (part t cs off).run P w = .ok v w := by
  simp [part, run_isAgg h, hv]

theorem eqL0 {ks : List Nat} {xs ys : List DV} {b : Bool} (h : eqL (0 :: ks) xs ys = some b) : ∃ k a a' xs' ys' r, xs = .raw (.int k a) :: xs' ∧ ys = .raw (.int k a') :: ys' ∧ eqL ks xs' ys' = some r ∧ b = (a == a' && r) := by
  unfold eqL at h
  split at h
  all_goals first | (rename_i he; cases he; done) | skip
  · rename_i he
    cases he
    split at h
    · rename_i hkk; subst hkk
      simp only [Option.map_eq_some_iff] at h
      obtain ⟨r, hr, rfl⟩ := h
      exact ⟨_, _, _, _, _, r, rfl, rfl, hr, rfl⟩
    · cases h
  · cases h
theorem eqL1 {ks : List Nat} {xs ys : List DV} {b : Bool} (h : eqL (1 :: ks) xs ys = some b) : ∃ a a' xs' ys' r, xs = .raw (.string a) :: xs' ∧ ys = .raw (.string a') :: ys' ∧ eqL ks xs' ys' = some r ∧ b = (decide (a = a') && r) := by
  unfold eqL at h
  split at h
  all_goals first | (rename_i he; cases he; done) | skip
  · rename_i he
    cases he
    simp only [Option.map_eq_some_iff] at h
    obtain ⟨r, hr, rfl⟩ := h
    exact ⟨_, _, _, _, r, rfl, rfl, hr, rfl⟩
  · cases h
theorem eqL2 {ks : List Nat} {xs ys : List DV} {b : Bool} (h : eqL (2 :: ks) xs ys = some b) : ∃ a a' xs' ys' r, xs = .raw (.bool a) :: xs' ∧ ys = .raw (.bool a') :: ys' ∧ eqL ks xs' ys' = some r ∧ b = (a == a' && r) := by
  unfold eqL at h
  split at h
  all_goals first | (rename_i he; cases he; done) | skip
  · rename_i he
    cases he
    simp only [Option.map_eq_some_iff] at h
    obtain ⟨r, hr, rfl⟩ := h
    exact ⟨_, _, _, _, r, rfl, rfl, hr, rfl⟩
  · cases h

theorem eqFields_ok {C : Cx} (d : Nat) (xs ys : Array Value) : ∀ (fs : List Field) (ks : List Nat) (n : Nat) (ds es : List DV) (b : Bool), plainF P n fs = some ks → eqL ks ds es = some b → RepL C ds (xs.toList.drop n) → RepL C es (ys.toList.drop n) →
    (Op.eqFields (d + 1) xs ys fs).run P w = .ok b w
  | [], ks, n, ds, es, b, hp, h, _, _ => by
    simp only [plainF, Option.some.injEq] at hp
    subst hp
    cases ds <;> cases es <;> first | (simp [eqL] at h; done) | (simp only [eqL, Option.some.injEq] at h; subst h; simp [Op.eqFields])
  | f :: fs, ks, n, ds, es, b, hp, h, hx, hy => by
    simp only [plainF] at hp
    split at hp
    · rename_i hc
      simp only [Bool.and_eq_true, bne_iff_ne, beq_iff_eq] at hc
      obtain ⟨⟨h1, h2⟩, h3⟩ := hc
      have go : ∀ (x y : DV) (ds' es' : List DV), ds = x :: ds' → es = y :: es' → ∃ vx vy, Rep C x vx ∧ Rep C y vy ∧ (part f.type xs f.offset).run P w = .ok vx w ∧ (part f.type ys f.offset).run P w = .ok vy w ∧
          RepL C ds' (xs.toList.drop (n + 1)) ∧ RepL C es' (ys.toList.drop (n + 1)) := by
        rintro x y ds' es' rfl rfl
        obtain ⟨vx, hvx, hrx⟩ := hx.get 0 x rfl
        obtain ⟨vy, hvy, hry⟩ := hy.get 0 y rfl
        rw [List.getElem?_drop, Nat.add_zero, Array.getElem?_toList] at hvx hvy
        rw [h2]
        exact ⟨vx, vy, hrx, hry, run_part h3 hvx, run_part h3 hvy, by have := hx.drop 1; simpa [List.drop_drop] using this, by have := hy.drop 1; simpa [List.drop_drop] using this⟩
      split at hp
      · rename_i k0 hu
        simp only [Option.map_eq_some_iff] at hp
        obtain ⟨ks', hk, rfl⟩ := hp
        obtain ⟨k, a, a', xs', ys', r, rfl, rfl, hr, rfl⟩ := eqL0 h
        obtain ⟨vx, vy, rx, ry, px, py, hxr, hyr⟩ := go _ _ _ _ rfl rfl
        simp only [Rep] at rx ry
        subst rx ry
        have ih := eqFields_ok d xs ys fs ks' (n + 1) _ _ r hk hr hxr hyr
        simp only [Op.eqFields, ne_eq, h1, not_false_eq_true, if_true, Sem.run_bind, px, py, Result.andThen_ok, run_equalIn_int w d f.type k k0 a a' hu]
        by_cases hab : a = a'
        · subst hab; simp [ih]
        · have : (a == a') = false := by simpa using hab
          simp [this]
      · rename_i hu
        simp only [Option.map_eq_some_iff] at hp
        obtain ⟨ks', hk, rfl⟩ := hp
        obtain ⟨a, a', xs', ys', r, rfl, rfl, hr, rfl⟩ := eqL1 h
        obtain ⟨vx, vy, rx, ry, px, py, hxr, hyr⟩ := go _ _ _ _ rfl rfl
        simp only [Rep] at rx ry
        subst rx ry
        have ih := eqFields_ok d xs ys fs ks' (n + 1) _ _ r hk hr hxr hyr
        simp only [Op.eqFields, ne_eq, h1, not_false_eq_true, if_true, Sem.run_bind, px, py, Result.andThen_ok, run_equalIn_string w d f.type a a' hu, beqB]
        by_cases hab : a = a'
        · subst hab; simp [ih]
        · simp [hab]
      · rename_i hu
        simp only [Option.map_eq_some_iff] at hp
        obtain ⟨ks', hk, rfl⟩ := hp
        obtain ⟨a, a', xs', ys', r, rfl, rfl, hr, rfl⟩ := eqL2 h
        obtain ⟨vx, vy, rx, ry, px, py, hxr, hyr⟩ := go _ _ _ _ rfl rfl
        simp only [Rep] at rx ry
        subst rx ry
        have ih := eqFields_ok d xs ys fs ks' (n + 1) _ _ r hk hr hxr hyr
        simp only [Op.eqFields, ne_eq, h1, not_false_eq_true, if_true, Sem.run_bind, px, py, Result.andThen_ok, run_equalIn_bool w d f.type a a' hu]
        by_cases hab : a = a'
        · subst hab; simp [ih]
        · have : (a == a') = false := by simpa using hab
          simp [this]
      · cases hp
    · cases hp

theorem run_eqGuard_other {op : BinOp} {t : TypeId} {x y : Operand} {a b : Value} (h1 : ¬ (a = .nilIface ∧ b = .nilIface)) (h2 : ∀ xs ys, ¬ (a = .agg xs ∧ b = .agg ys)) : (eqGuard op t x y a b).run P w = .ok () w := by
  cases op
  case eql => cases a <;> cases b <;> first | rfl | (exact (h1 ⟨rfl, rfl⟩).elim) | (exact (h2 _ _ ⟨rfl, rfl⟩).elim)
  case neq => cases a <;> cases b <;> first | rfl | (exact (h1 ⟨rfl, rfl⟩).elim) | (exact (h2 _ _ ⟨rfl, rfl⟩).elim)
  all_goals rfl

theorem eqn_ptr (d : Nat) {t : TypeId} {e : TypeId} (he : P.underlying t = some (.pointer e)) {a b : Option Addr} (h : a = none ∨ b = none) : (Op.equalIn (d + 1) t (.pointer a) (.pointer b)).run P w = .ok (a.isNone && b.isNone) w := by
  rcases h with rfl | rfl
  · simp [Op.equalIn, run_underlying he]
  · cases a <;> simp [Op.equalIn, run_underlying he]
theorem eqn_fn0 (d : Nat) {t : TypeId} {e1 e2 : Array TypeId} {e3 : Bool} (he : P.underlying t = some (.func e1 e2 e3)) : (Op.equalIn (d + 1) t .nilFunc .nilFunc).run P w = .ok true w := by simp [Op.equalIn, run_underlying he]
theorem eqn_fn1 (d : Nat) {t : TypeId} {e1 e2 : Array TypeId} {e3 : Bool} (he : P.underlying t = some (.func e1 e2 e3)) {f : Fn} {a b : Array Value} : (Op.equalIn (d + 1) t .nilFunc (.func f a b)).run P w = .ok false w := by simp [Op.equalIn, run_underlying he]
theorem eqn_fn2 (d : Nat) {t : TypeId} {e1 e2 : Array TypeId} {e3 : Bool} (he : P.underlying t = some (.func e1 e2 e3)) {f : Fn} {a b : Array Value} : (Op.equalIn (d + 1) t (.func f a b) .nilFunc).run P w = .ok false w := by simp [Op.equalIn, run_underlying he]
theorem eqn_if0 (d : Nat) {t : TypeId} {e : Array (String × TypeId)} (he : P.underlying t = some (.interface e)) : (Op.equalIn (d + 1) t .nilIface .nilIface).run P w = .ok true w := by simp [Op.equalIn, run_underlying he]
theorem eqn_if1 (d : Nat) {t : TypeId} {e : Array (String × TypeId)} (he : P.underlying t = some (.interface e)) {u : TypeId} {v : Value} : (Op.equalIn (d + 1) t .nilIface (.iface u v)).run P w = .ok false w := by simp [Op.equalIn, run_underlying he]
theorem eqn_if2 (d : Nat) {t : TypeId} {e : Array (String × TypeId)} (he : P.underlying t = some (.interface e)) {u : TypeId} {v : Value} : (Op.equalIn (d + 1) t (.iface u v) .nilIface).run P w = .ok false w := by simp [Op.equalIn, run_underlying he]
theorem eqn_sl0 (d : Nat) {t : TypeId} {e : TypeId} (he : P.underlying t = some (.slice e)) : (Op.equalIn (d + 1) t (.slice none 0 0) (.slice none 0 0)).run P w = .ok true w := by simp [Op.equalIn, run_underlying he]
theorem eqn_sl1 (d : Nat) {t : TypeId} {e : TypeId} (he : P.underlying t = some (.slice e)) {a : Addr} {n c : Nat} : (Op.equalIn (d + 1) t (.slice none 0 0) (.slice (some a) n c)).run P w = .ok false w := by simp [Op.equalIn, run_underlying he]
theorem eqn_sl2 (d : Nat) {t : TypeId} {e : TypeId} (he : P.underlying t = some (.slice e)) {a : Addr} {n c : Nat} : (Op.equalIn (d + 1) t (.slice (some a) n c) (.slice none 0 0)).run P w = .ok false w := by simp [Op.equalIn, run_underlying he]
theorem guard_nil {op : BinOp} {t : TypeId} {x y : Operand} (h : (isCo x || isCo y) = true) : (eqGuard op t x y .nilIface .nilIface).run P w = .ok () w := by
  cases op
  case eql => cases x <;> cases y <;> first | rfl | (simp [isCo] at h; done)
  case neq => cases x <;> cases y <;> first | rfl | (simp [isCo] at h; done)
  all_goals rfl

/-- Equality of what reads so. -/
theorem eqD_ok {C : Cx} {t : TypeId} {x y : Operand} {dx dy : DV} {b : Bool} (h : eqD P (isCo x || isCo y) t dx dy = some b) {vx vy : Value} (rx : Rep C dx vx) (ry : Rep C dy vy) {op : BinOp} :
    (eqGuard op t x y vx vy).run P w = .ok () w ∧ (Op.equalIn 10000 t vx vy).run P w = .ok b w ∧ (∀ k n, vx ≠ .int k n) ∧ (∀ s, vx ≠ .string s) ∧ (∀ k n, vx ≠ .float k n) ∧ (∀ k n m, vx ≠ .complex k n m) := by
  have step : ∀ {b : Bool}, (Op.equalIn (9999 + 1) t vx vy).run P w = .ok b w → (Op.equalIn 10000 t vx vy).run P w = .ok b w := fun h => h
  have triv : ∀ {d : TypeDesc}, P.underlying t = some d → (underlying t).run P w = .ok d w := fun h => run_underlying h w
  have fin : ∀ {r : Bool}, (eqGuard op t x y vx vy).run P w = .ok () w → (Op.equalIn (9999 + 1) t vx vy).run P w = .ok r w → r = b → (∀ k n, vx ≠ .int k n) → (∀ s, vx ≠ .string s) → (∀ k n, vx ≠ .float k n) → (∀ k n m, vx ≠ .complex k n m) →
      (eqGuard op t x y vx vy).run P w = .ok () w ∧ (Op.equalIn 10000 t vx vy).run P w = .ok b w ∧ (∀ k n, vx ≠ .int k n) ∧ (∀ s, vx ≠ .string s) ∧ (∀ k n, vx ≠ .float k n) ∧ (∀ k n m, vx ≠ .complex k n m) := by
    rintro r h1 h2 rfl h3 h4 h5 h6; exact ⟨h1, h2, h3, h4, h5, h6⟩
  have ptr : ∀ {a b : Option Addr}, vx = .pointer a → vy = .pointer b → isPtr P t = true → (a = none ∨ b = none) → (Op.equalIn (9999 + 1) t vx vy).run P w = .ok (a.isNone && b.isNone) w := by
    rintro a b rfl rfl hp hab
    obtain ⟨e, he⟩ := ptr_under hp
    exact eqn_ptr 9999 he hab
  unfold eqD at h
  split at h
  case h_1 =>
    simp only [Rep] at rx ry
    subst rx ry
    split at h
    · rename_i hb
      cases h
      exact fin (run_eqGuard_other (by simp) (by simp)) (run_equalIn_bool w _ t _ _ (bool_under hb)) rfl (by simp) (by simp) (by simp) (by simp)
    · cases h
  case h_2 =>
    simp only [Rep] at rx ry
    subst rx ry
    split at h
    · rename_i hb
      cases h
      exact fin (run_eqGuard_other (by simp) (by simp)) (ptr rfl rfl hb (.inl rfl)) rfl (by simp) (by simp) (by simp) (by simp)
    · cases h
  case h_3 =>
    simp only [Rep] at rx ry
    subst rx
    obtain ⟨_, _, _, _, _, rfl, _⟩ := ry
    split at h
    · rename_i hb
      cases h
      exact fin (run_eqGuard_other (by simp) (by simp)) (ptr rfl rfl hb (.inl rfl)) rfl (by simp) (by simp) (by simp) (by simp)
    · cases h
  case h_4 =>
    simp only [Rep] at rx ry
    subst rx
    obtain ⟨_, _, rfl⟩ := ry
    split at h
    · rename_i hb
      cases h
      exact fin (run_eqGuard_other (by simp) (by simp)) (ptr rfl rfl hb (.inl rfl)) rfl (by simp) (by simp) (by simp) (by simp)
    · cases h
  case h_5 =>
    simp only [Rep] at rx ry
    subst ry
    obtain ⟨_, _, _, _, _, rfl, _⟩ := rx
    split at h
    · rename_i hb
      cases h
      exact fin (run_eqGuard_other (by simp) (by simp)) (ptr rfl rfl hb (.inr rfl)) rfl (by simp) (by simp) (by simp) (by simp)
    · cases h
  case h_6 =>
    simp only [Rep] at rx ry
    subst ry
    obtain ⟨_, _, rfl⟩ := rx
    split at h
    · rename_i hb
      cases h
      exact fin (run_eqGuard_other (by simp) (by simp)) (ptr rfl rfl hb (.inr rfl)) rfl (by simp) (by simp) (by simp) (by simp)
    · cases h
  case h_7 =>
    simp only [Rep] at rx ry
    subst rx ry
    split at h
    · rename_i hb
      cases h
      obtain ⟨_, _, _, he⟩ := func_under hb
      exact fin (r := true) (run_eqGuard_other (by simp) (by simp)) (eqn_fn0 9999 he) rfl (by simp) (by simp) (by simp) (by simp)
    · cases h
  case h_8 =>
    simp only [Rep] at rx ry
    subst rx
    obtain ⟨_, _, rfl, _⟩ := ry
    split at h
    · rename_i hb
      cases h
      obtain ⟨_, _, _, he⟩ := func_under hb
      exact fin (r := false) (run_eqGuard_other (by simp) (by simp)) (eqn_fn1 9999 he) rfl (by simp) (by simp) (by simp) (by simp)
    · cases h
  case h_9 =>
    simp only [Rep] at rx ry
    subst ry
    obtain ⟨_, _, rfl, _⟩ := rx
    split at h
    · rename_i hb
      cases h
      obtain ⟨_, _, _, he⟩ := func_under hb
      exact fin (r := false) (run_eqGuard_other (by simp) (by simp)) (eqn_fn2 9999 he) rfl (by simp) (by simp) (by simp) (by simp)
    · cases h
  case h_10 =>
    simp only [Rep] at rx ry
    subst rx ry
    split at h
    · rename_i hb
      cases h
      rw [Bool.and_eq_true] at hb
      obtain ⟨_, he⟩ := iface_under hb.1
      refine fin (r := true) ?_ (eqn_if0 9999 he) rfl (by simp) (by simp) (by simp) (by simp)
      exact guard_nil hb.2
    · cases h
  case h_11 =>
    simp only [Rep] at rx ry
    subst rx
    obtain ⟨_, rfl, _⟩ := ry
    split at h
    · rename_i hb
      cases h
      obtain ⟨_, he⟩ := iface_under hb
      exact fin (r := false) (run_eqGuard_other (by simp) (by simp)) (eqn_if1 9999 he) rfl (by simp) (by simp) (by simp) (by simp)
    · cases h
  case h_12 =>
    simp only [Rep] at rx ry
    subst ry
    obtain ⟨_, rfl, _⟩ := rx
    split at h
    · rename_i hb
      cases h
      obtain ⟨_, he⟩ := iface_under hb
      exact fin (r := false) (run_eqGuard_other (by simp) (by simp)) (eqn_if2 9999 he) rfl (by simp) (by simp) (by simp) (by simp)
    · cases h
  case h_13 =>
    simp only [Rep] at rx ry
    subst rx ry
    split at h
    · rename_i hb
      cases h
      obtain ⟨e, he⟩ := Option.isSome_iff_exists.1 hb
      exact fin (r := true) (run_eqGuard_other (by simp) (by simp)) (eqn_sl0 9999 (sl_under he)) rfl (by simp) (by simp) (by simp) (by simp)
    · cases h
  case h_14 =>
    simp only [Rep] at rx ry
    subst ry
    obtain ⟨A, cap, rfl, h1, h2, h3, h4⟩ := rx
    split at h
    · rename_i hb
      cases h
      obtain ⟨e, he⟩ := Option.isSome_iff_exists.1 hb
      obtain ⟨a, rfl⟩ : ∃ a, A = some a := by
        rcases h4 with h4 | ⟨_, _, _, _, _, h4, _⟩
        · cases h4
        · exact ⟨_, h4⟩
      exact fin (r := false) (run_eqGuard_other (by simp) (by simp)) (eqn_sl2 9999 (sl_under he)) rfl (by simp) (by simp) (by simp) (by simp)
    · cases h
  case h_15 =>
    simp only [Rep] at rx ry
    subst rx
    obtain ⟨A, cap, rfl, h1, h2, h3, h4⟩ := ry
    split at h
    · rename_i hb
      cases h
      obtain ⟨e, he⟩ := Option.isSome_iff_exists.1 hb
      obtain ⟨a, rfl⟩ : ∃ a, A = some a := by
        rcases h4 with h4 | ⟨_, _, _, _, _, h4, _⟩
        · cases h4
        · exact ⟨_, h4⟩
      exact fin (r := false) (run_eqGuard_other (by simp) (by simp)) (eqn_sl1 9999 (sl_under he)) rfl (by simp) (by simp) (by simp) (by simp)
    · cases h
  case h_16 =>
    simp only [Rep] at rx ry
    subst rx ry
    split at h
    · rename_i hb
      cases h
      obtain ⟨e, he⟩ := Option.isSome_iff_exists.1 hb
      exact fin (r := false) (run_eqGuard_other (by simp) (by simp)) (eqn_sl2 9999 (sl_under he)) rfl (by simp) (by simp) (by simp) (by simp)
    · cases h
  case h_17 =>
    split at h
    · rename_i ks hp
      simp only [Rep] at rx ry
      obtain ⟨xs, rfl, hx1, hx2⟩ := rx
      obtain ⟨ys, rfl, hy1, hy2⟩ := ry
      unfold plainSt at hp
      split at hp
      · rename_i fs hu
        split at hp
        · rename_i hc
          rw [Bool.and_eq_true] at hc
          have h1 : P.stoodInHeld t = false := by simpa using hc.1
          have h2 : P.eqGuardType P.depth t = false := by simpa using hc.2
          have hfo : P.fieldsOf t = fs := by simp [Program.fieldsOf, hu]
          refine fin (r := b) (run_eqGuard_agg w op t x y _ _ h2) ?_ rfl (by simp) (by simp) (by simp) (by simp)
          rw [run_equalIn_struct w 9999 t _ _ (by rw [hfo]; exact hu) h1, hfo]
          exact eqFields_ok 9998 _ _ fs.toList ks 0 _ _ b hp h (by simpa using hx2) (by simpa using hy2)
        · cases hp
      · cases hp
    · cases h
  case h_18 => cases h
end
end Go.Dv
/-
  What each operation does with deep values: structs, slices, memory, calls.
-/
namespace Go.Dv
set_option linter.unusedVariables false
set_option linter.unusedSimpArgs false
open Go Go.RowKit

/-! ### a struct's or array's parts -/
def fillD (place : Nat → Option (Nat × Nat)) : List DV → List (Nat × DV) → Option (List DV)
  | cells, [] => some cells
  | cells, (i, d) :: rest => match place i, cellsD d with
    | some (off, size), some ds => if ds.length = size ∧ off + ds.length ≤ cells.length then fillD place (putAt cells off ds) rest else none
    | _, _ => none

theorem foldl_put {C : Cx} : ∀ (ds cs : List DV) (off j : Nat) (vs : List Value) (cells : Array Value), RepL C ds vs → vs.length = ds.length → RepL C cs cells.toList → cells.size = cs.length →
    RepL C (putAt cs (off + j) ds) ((vs.zipIdx j).foldl (fun a (c, k) => a.setIfInBounds (off + k) c) cells).toList ∧ ((vs.zipIdx j).foldl (fun a (c, k) => a.setIfInBounds (off + k) c) cells).size = cs.length
  | [], cs, off, j, vs, cells, _, hl, hc, hs => by
    have : vs = [] := List.eq_nil_of_length_eq_zero (by simpa using hl)
    subst this
    exact ⟨hc, hs⟩
  | d :: ds, cs, off, j, [], cells, hr, _, _, _ => by simp only [RepL] at hr
  | d :: ds, cs, off, j, v :: vs, cells, hr, hl, hc, hs => by
    simp only [RepL] at hr
    simp only [List.zipIdx_cons, List.foldl_cons, putAt]
    have := foldl_put ds (cs.set (off + j) d) off (j + 1) vs (cells.setIfInBounds (off + j) v) hr.2 (by simpa using hl) (by simpa using RepL.set hc (off + j) hr.1) (by simp [hs])
    rw [show off + j + 1 = off + (j + 1) by omega]
    exact ⟨this.1, by rw [this.2]; simp⟩

theorem fill_ok {C : Cx} {place : Nat → Option (Nat × Nat)} : ∀ (parts : List (Nat × DV)) (vparts : List (Nat × Value)) (cs : List DV) (cells : Array Value) (out : List DV), fillD place cs parts = some out →
    vparts.map (·.1) = parts.map (·.1) → RepL C (parts.map (·.2)) (vparts.map (·.2)) → RepL C cs cells.toList → cells.size = cs.length →
    ∃ a, Instr.fill place cells vparts = some a ∧ RepL C out a.toList ∧ a.size = out.length
  | [], vparts, cs, cells, out, h, hk, hr, hc, hs => by
    have : vparts = [] := by simpa using hk
    subst this
    simp only [fillD, Option.some.injEq] at h
    subst h
    exact ⟨cells, rfl, hc, hs⟩
  | (i, d) :: parts, [], cs, cells, out, h, hk, hr, hc, hs => by simp at hk
  | (i, d) :: parts, (i', v) :: vparts, cs, cells, out, h, hk, hr, hc, hs => by
    simp only [List.map_cons, List.cons.injEq] at hk
    obtain ⟨rfl, hk⟩ := hk
    simp only [List.map_cons, RepL] at hr
    simp only [fillD] at h
    split at h
    · rename_i off size ds hp hd
      split at h
      · rename_i hc1
        obtain ⟨h1, h2⟩ := cellsD_ok hd hr.1
        simp only [Instr.fill, hp]
        rw [if_neg (by simp [h2, hc1.1]; omega)]
        have := foldl_put ds cs off 0 v.cells.toList cells h1 (by simpa using h2) hc hs
        simp only [Nat.add_zero] at this
        have hz : (v.cells.zipIdx.foldl (fun cs (c, j) => cs.setIfInBounds (off + j) c) cells) = ((v.cells.toList.zipIdx 0).foldl (fun a (c, k) => a.setIfInBounds (off + k) c) cells) := by
          rw [← Array.foldl_toList]
          simp [Array.toList_zipIdx]
        rw [hz]
        exact fill_ok parts vparts _ _ out h hk hr.2 this.1 (by rw [this.2, putAt_len])
      · cases h
    · cases h

/-- Where the parts of a struct lie. -/
def plcO (P : Program) (t : TypeId) : Option (List (Nat × Nat)) := match P.underlying t with
  | some (.struct fs) => fs.toList.mapM (fun f => (P.info? f.type).map fun i => (f.offset, i.size))
  | _ => none

def fBuild (P : Program) (t : TypeId) (parts : List (Nat × DV)) : OpR :=
  match zeroO P t with
  | none => .bad
  | some z => match plcO P t with
    | some ps => match fillD (fun i => ps[i]?) (z.map DV.raw) parts with | some cs => .need True (.agg cs) | none => .bad
    | none => match arO P t with
      | some (_, e) => match szO P e with
        | some s => match fillD (fun i => some (i * s, s)) (z.map DV.raw) parts with | some cs => .need True (.agg cs) | none => .bad
        | none => .bad
      | none => .bad

section
variable {P : Program} {w : World} {C : Cx}

theorem run_build {t : TypeId} {parts : List (Nat × DV)} {p : Prop} {d : DV} (h : fBuild P t parts = .need p d) {vparts : Array (Nat × Value)} (hk : vparts.toList.map (·.1) = parts.map (·.1))
    (hr : RepL C (parts.map (·.2)) (vparts.toList.map (·.2))) : ∃ v, (Instr.build t vparts).run P w = .ok v w ∧ Rep C d v := by
  unfold fBuild at h
  split at h
  · cases h
  · rename_i z hz
    obtain ⟨zv, hz1, hz2⟩ := run_zeroCells (w := w) hz
    have hz3 : RepL C (z.map DV.raw) zv.cells.toList := by rw [hz2]; exact RepL_raw z
    have hz4 : zv.cells.size = (z.map DV.raw).length := by rw [← Array.length_toList, hz2]; simp
    split at h
    · rename_i ps hps
      split at h
      · rename_i cs hf
        cases h
        unfold plcO at hps
        split at hps
        · rename_i fs hu
          obtain ⟨a, h1, h2, h3⟩ := fill_ok parts vparts.toList _ _ cs hf hk hr hz3 hz4
          refine ⟨.agg a, ?_, ?_⟩
          · have hp := run_places w fs.toList ps hps
            have hm : (fs.mapM fun f => do pure (f.offset, ← sizeOf f.type) : Sem (Array (Nat × Nat))).run P w = .ok ps.toArray w := by
              rw [Array.mapM_eq_mapM_toList]
              have : (fs.toList.mapM fun f => do pure (f.offset, ← sizeOf f.type) : Sem (List (Nat × Nat))) = fs.toList.mapM fun f => Prod.mk f.offset <$> sizeOf f.type := by
                congr 1
              simp only [Sem.run_map, this, hp, Result.andThen_ok]
            have h1' : Instr.fill (fun i => ps.toArray[i]?) zv.cells vparts.toList = some a := by simpa using h1
            simp only [Instr.build, Sem.run_bind, hz1, run_underlying hu, Result.andThen_ok, hm, h1', Sem.run_pure]
          · simp only [Rep]
            exact ⟨a.toList, by simp, by simpa using h3, h2⟩
        · cases hps
      · cases h
    · split at h
      · rename_i n e he
        split at h
        · rename_i s hs
          split at h
          · rename_i cs hf
            cases h
            obtain ⟨a, h1, h2, h3⟩ := fill_ok parts vparts.toList _ _ cs hf hk hr hz3 hz4
            refine ⟨.agg a, ?_, ?_⟩
            · simp only [Instr.build, Sem.run_bind, hz1, run_underlying (ar_under he), Result.andThen_ok, run_sizeOf hs, h1, Sem.run_pure]
            · simp only [Rep]
              exact ⟨a.toList, by simp, by simpa using h3, h2⟩
          · cases h
        · cases h
      · cases h
end

/-! ### a slice's parts -/
def chunkD (sz : Nat) : Nat → List DV → List (List DV)
  | 0, _ => []
  | n + 1, cs => cs.take sz :: chunkD sz n (cs.drop sz)

theorem chunkD_len (sz : Nat) : ∀ (n : Nat) (cs : List DV), (chunkD sz n cs).length = n
  | 0, _ => rfl
  | n + 1, cs => by simp [chunkD, chunkD_len sz n]

theorem chunkD_rep {C : Cx} (sz : Nat) : ∀ (n : Nat) (cs : List DV) (vs : List Value), RepL C cs vs → cs.length = n * sz → RepLL C sz (chunkD sz n cs) vs
  | 0, _, _, _, _ => by simp only [chunkD, RepLL]
  | n + 1, cs, vs, h, hl => by
    simp only [chunkD, RepLL]
    rw [Nat.add_mul] at hl
    exact ⟨by rw [List.length_take]; omega, h.take' sz, chunkD_rep sz n _ _ (h.drop sz) (by rw [List.length_drop]; omega)⟩

def repD : Nat → List DV → List DV
  | 0, _ => []
  | n + 1, z => z ++ repD n z

theorem repD_len : ∀ (n : Nat) (z : List DV), (repD n z).length = n * z.length
  | 0, z => by simp [repD]
  | n + 1, z => by simp only [repD, List.length_append, repD_len n z, Nat.add_mul]; omega

theorem repD_get (z : List DV) : ∀ (n i : Nat), i < n * z.length → (repD n z)[i]? = z[i % z.length]?
  | 0, i, h => by omega
  | n + 1, i, h => by
    rw [Nat.add_mul] at h
    simp only [repD]
    by_cases hi : i < z.length
    · rw [List.getElem?_append_left hi, Nat.mod_eq_of_lt hi]
    · rw [List.getElem?_append_right (by omega), repD_get z n _ (by omega)]
      congr 1
      rw [← Nat.mod_eq_sub_mod (by omega)]

theorem zeros_rep {C : Cx} {z : Array Value} {s n : Nat} (hs : z.size = s) (h0 : 0 < s) :
    RepL C (repD n (z.toList.map DV.raw)) (((Array.range (n * s)).map (z[· % z.size]!)).toList) ∧ ((Array.range (n * s)).map (z[· % z.size]!)).size = n * s := by
  refine ⟨RepL.of_get fun i d hd => ?_, by simp⟩
  have hi : i < n * s := by
    have := (List.getElem?_eq_some_iff.1 hd).1
    rw [repD_len] at this
    simpa [hs] using this
  rw [repD_get _ _ _ (by simpa [hs] using hi)] at hd
  have hm : i % z.size < z.size := Nat.mod_lt _ (by omega)
  simp only [List.length_map, Array.length_toList, List.getElem?_map, Array.getElem?_toList] at hd
  rw [Array.getElem?_eq_getElem hm] at hd
  simp only [Option.map_some, Option.some.injEq] at hd
  subst hd
  refine ⟨z[i % z.size]!, ?_, ?_⟩
  · rw [Array.getElem?_toList, Array.getElem?_map, Array.getElem?_range, if_pos hi]
    rfl
  · simp only [Rep]
    rw [getElem!_pos z _ hm]

def fBuildSlice (P : Program) (own : Bool) (t : TypeId) (len : Nat) (parts : List (Nat × DV)) : OpR :=
  match slO P t with
  | none => .bad
  | some e => match szO P e, zeroO P e with
    | some s, some z =>
      if 0 < s ∧ z.length = s ∧ len * s ≤ 16777216 then
        match fillD (fun i => some (i * s, s)) (repD len (z.map DV.raw)) parts with
        | some cs => if own then .al True (fun g => .row g s (chunkD s len cs)) (fun j g => .row j g s 0 len) else .al True (fun _ => .dead) (fun _ _ => .lst s true (chunkD s len cs))
        | none => .bad
      else .bad
    | _, _ => .bad

section
variable {P : Program} {W0 : World}

theorem run_buildSlice {C : Cx} {w : World} {t e : TypeId} {s len : Nat} {z : List Value} {parts : List (Nat × DV)} {cs : List DV} (ht : slO P t = some e) (hs : szO P e = some s) (hz : zeroO P e = some z) (h0 : 0 < s) (hzl : z.length = s)
    (hm : len * s ≤ 16777216) (hf : fillD (fun i => some (i * s, s)) (repD len (z.map DV.raw)) parts = some cs) {vparts : Array (Nat × Value)} (hk : vparts.toList.map (·.1) = parts.map (·.1))
    (hr : RepL C (parts.map (·.2)) (vparts.toList.map (·.2))) : ∃ a : Array Value, (Instr.buildSlice t len vparts).run P w = .ok (.slice (some ⟨w.heap.size, 0, none⟩) len len) (w.alloc (.cells a e)) ∧ RepL C cs a.toList ∧ a.size = cs.length ∧ a.size = len * s := by
  obtain ⟨zv, hz1, hz2⟩ := run_zeroCells (w := w) hz
  have hzs : zv.cells.size = s := by rw [← Array.length_toList, hz2]; exact hzl
  have hzr := zeros_rep (C := C) (n := len) hzs h0
  rw [hz2] at hzr
  obtain ⟨a, h1, h2, h3⟩ := fill_ok parts vparts.toList _ _ cs hf hk hr hzr.1 (by rw [hzr.2, repD_len]; simp [hzl])
  have hlen : cs.length = len * s := by
    have : ∀ (parts : List (Nat × DV)) (cs0 out : List DV), fillD (fun i => some (i * s, s)) cs0 parts = some out → out.length = cs0.length := by
      intro parts
      induction parts with
      | nil => intro cs0 out h; simp only [fillD, Option.some.injEq] at h; rw [h]
      | cons p parts ih =>
        intro cs0 out h
        obtain ⟨i, d⟩ := p
        simp only [fillD] at h
        split at h
        · split at h
          · rw [ih _ _ h, putAt_len]
          · cases h
        · cases h
    rw [this _ _ _ hf, repD_len]; simp [hzl]
  refine ⟨a, ?_, h2, h3, by omega⟩
  by_cases hl : len * s = 0
  · have hlen0 : len = 0 := by
      rcases Nat.mul_eq_zero.1 hl with h | h
      · exact h
      · omega
    subst hlen0
    have hfz : ∀ f : Nat → Value, (Array.range (0 * s)).map f = #[] := by intro f; simp
    have hfz0 : ∀ f : Nat → Value, (Array.range 0).map f = #[] := by intro f; simp
    rw [hfz] at h1
    simp only [Instr.buildSlice, Sem.run_bind, run_underlying (sl_under ht), Result.andThen_ok, run_sizeOf hs, Sem.run_ite]
    rw [if_neg (by omega)]
    simp only [Sem.run_pure, Result.andThen_ok, hl, if_true, hfz0, h1, newRow, Sem.run_bind, run_newObj]
    rfl
  · simp only [Instr.buildSlice, Sem.run_bind, run_underlying (sl_under ht), Result.andThen_ok, run_sizeOf hs, Sem.run_ite]
    rw [if_neg (by omega)]
    simp only [Sem.run_pure, Result.andThen_ok, hl, if_false, hz1, h1, newRow, Sem.run_bind, run_newObj]
    rfl
end
end Go.Dv
/-
  What each operation does with deep values: slices, memory, texts gone through, calls.
-/
namespace Go.Dv
set_option linter.unusedVariables false
set_option linter.unusedSimpArgs false
open Go Go.RowKit

def tick (p : Prop) (v : Value) : OpR := .need p (.raw v)

/-! ### memory -/
def fAlloc (P : Program) (t : TypeId) : OpR := match zeroO P t with
  | some z => .al True (fun g => .cells g (z.map DV.raw)) (fun j g => .loc j g 0)
  | none => .bad

def fBox (d : DV) : OpR := match cellsD d with
  | some cs => .al True (fun g => .cells g cs) (fun j g => .loc j g 0)
  | none => .bad

/-- The element at a place. -/
def atE (es : List (List DV)) (i : Nat) : List DV := es.getD i []

def rdC (g off : Nat) (b : Bool) (n : Nat) : SO → Option (Prop × DV)
  | .cells g' cs => if g' = g then (takeD b n (cs.drop off)).map fun d => (True, d) else none
  | _ => none
def rdE (g sz k o : Nat) (b : Bool) (n : Nat) : SO → Option (Prop × DV)
  | .row g' sz' es => if g' = g ∧ sz' = sz then (takeD b n ((atE es k).drop o)).map fun d => (k < es.length, d) else none
  | _ => none

def fLoad (P : Program) (t : TypeId) (d : DV) : OpR := match szO P t, aggO P t with
  | some n, some b => match d with
    | .loc i g off => .rd i (rdC g off b n)
    | .el i g sz k o => .rd i (rdE g sz k o b n)
    | .imm cs => match takeD b n cs with | some d => .need True d | none => .bad
    | _ => .bad
  | _, _ => .bad

def wrC (g off : Nat) (ds : List DV) : SO → Option (Prop × SO × DV)
  | .cells g' cs => if g' = g then some (off + ds.length ≤ cs.length, .cells g' (putAt cs off ds), .raw undef) else none
  | _ => none
def wrE (g sz k o : Nat) (ds : List DV) : SO → Option (Prop × SO × DV)
  | .row g' sz' es => if g' = g ∧ sz' = sz then some (k < es.length ∧ o + ds.length ≤ sz, .row g' sz' (es.set k (putAt (atE es k) o ds)), .raw undef) else none
  | _ => none

def fStore (P : Program) (t : TypeId) (d x : DV) : OpR := match szO P t, cellsD x with
  | some n, some ds => if ds.length = n ∧ 0 < n ∧ ds.all oneD = true then
      match d with
      | .loc i g off => .wr i (wrC g off ds)
      | .el i g sz k o => .wr i (wrE g sz k o ds)
      | _ => .bad
    else .bad
  | _, _ => .bad

def fNil (d : DV) : OpR := match d with
  | .imm _ | .loc .. | .el .. | .ifc .. => .need True d
  | .fn (.func _) _ _ => .need True d
  | _ => .bad

section
variable {P : Program} {W0 : World}

theorem load_rdC {t n : Nat} {b : Bool} (hn : szO P t = some n) (hb : aggO P t = some b) {i g off : Nat} {so : SO} {p : Prop} {d : DV} (h : rdC g off b n so = some (p, d))
    {pl : Nat → Nat → Pl} {S : List SO} {w : World} (hg : Good W0 pl S w) (hs : S[i]? = some so) {v : Value} (hv : Rep (cxOf w pl S) (.loc i g off) v) :
    ∃ v', (Instr.loadAt t v).run P w = .ok v' w ∧ Rep (cxOf w pl S) d v' := by
  simp only [Rep] at hv
  obtain ⟨b', hp, rfl⟩ := hv
  have ho := hg.objs i so hs
  cases so with
  | cells g' cs =>
    simp only [rdC] at h
    split at h
    · rename_i he; subst he
      simp only [Option.map_eq_some_iff, Prod.mk.injEq] at h
      obtain ⟨d', h2, _, rfl⟩ := h
      obtain ⟨b2, c, T, fr, hp2, hh, _, _, hr⟩ := ho
      have hp' : (cxOf w pl S).pl i g' = .blk b' := hp
      rw [hp2] at hp'
      cases hp'
      obtain ⟨v', h3, h4⟩ := load_ok (C := cxOf w pl S) rfl hn hb hh (hr.drop off) h2
      exact ⟨v', by simpa [Instr.loadAt, Instr.sureAddr] using h3, h4⟩
    · cases h
  | _ => simp [rdC] at h

theorem atE_some {es : List (List DV)} {k : Nat} (h : k < es.length) : es[k]? = some (atE es k) := by
  unfold atE
  rw [List.getD_eq_getElem?_getD, List.getElem?_eq_getElem h]
  rfl

theorem load_rdE {t n : Nat} {b : Bool} (hn : szO P t = some n) (hb : aggO P t = some b) {i g sz k o : Nat} {so : SO} {p : Prop} {d : DV} (h : rdE g sz k o b n so = some (p, d)) (hp0 : p)
    {pl : Nat → Nat → Pl} {S : List SO} {w : World} (hg : Good W0 pl S w) (hs : S[i]? = some so) {v : Value} (hv : Rep (cxOf w pl S) (.el i g sz k o) v) :
    ∃ v', (Instr.loadAt t v).run P w = .ok v' w ∧ Rep (cxOf w pl S) d v' := by
  simp only [Rep] at hv
  obtain ⟨b', hp, rfl⟩ := hv
  have ho := hg.objs i so hs
  cases so with
  | row g' sz' es =>
    simp only [rdE] at h
    split at h
    · rename_i he; obtain ⟨rfl, rfl⟩ := he
      simp only [Option.map_eq_some_iff, Prod.mk.injEq] at h
      obtain ⟨d', h2, rfl, rfl⟩ := h
      rcases ho with ⟨_, rfl⟩ | ⟨b2, c, T, fr, hp2, hh, _, hr⟩
      · simp at hp0
      · have hp' : (cxOf w pl S).pl i g' = .blk b' := hp
        rw [hp2] at hp'
        cases hp'
        have hr' := (hr.len k _ (atE_some hp0)).2
        have hr2 := hr'.drop o
        rw [List.drop_drop] at hr2
        obtain ⟨v', h3, h4⟩ := load_ok (C := cxOf w pl S) rfl hn hb hh hr2 h2
        exact ⟨v', by simpa [Instr.loadAt, Instr.sureAddr] using h3, h4⟩
    · cases h
  | _ => simp [rdE] at h

theorem load_imm {t n : Nat} {b : Bool} (hn : szO P t = some n) (hb : aggO P t = some b) {cs : List DV} {d : DV} (h : takeD b n cs = some d)
    {pl : Nat → Nat → Pl} {S : List SO} {w : World} {v : Value} (hv : Rep (cxOf w pl S) (.imm cs) v) : ∃ v', (Instr.loadAt t v).run P w = .ok v' w ∧ Rep (cxOf w pl S) d v' := by
  simp only [Rep] at hv
  obtain ⟨b', off, c, T, fr, rfl, hm, hh, hr⟩ := hv
  obtain ⟨v', h3, h4⟩ := load_ok (C := cxOf w pl S) rfl hn hb hh hr h
  exact ⟨v', by simpa [Instr.loadAt, Instr.sureAddr] using h3, h4⟩

theorem run_storeCells_blk (b o : Nat) (T : TypeId) (fr : Nat × Nat) : ∀ (vs : List Value) (i : Nat) (c : Array Value) (w : World), w.heap[b]? = some (.cells c T fr) → Thaw fr c.size → o + i + vs.length ≤ c.size → (∀ v ∈ vs, v.oneCell' = true) →
    ∃ c', (storeCells ⟨b, o, none⟩ vs i).run P w = .ok () (World.setBlk w b c') ∧ c'.size = c.size ∧ (∀ k, c'[k]? = if o + i ≤ k ∧ k < o + i + vs.length then vs[k - (o + i)]? else c[k]?)
  | [], i, c, w, hh, _, _, _ => by
    refine ⟨c, ?_, rfl, fun k => ?_⟩
    · rw [setBlk_self hh]
      rfl
    · rw [if_neg (by rintro ⟨h1, h2⟩; simp at h2; omega)]
  | v :: vs, i, c, w, hh, ht, hl, h1 => by
    simp only [List.length_cons] at hl
    have hoi : o + i < c.size := by omega
    have hcell : w.cell? ⟨b, o + i, none⟩ = some c[o + i] := by rw [cell_of_row w b (o + i) c T fr hh, Array.getElem?_eq_getElem hoi]
    have hfr : w.frozen? ⟨b, o + i, none⟩ = false := by
      have := ht (o + i) hoi
      simp only [World.frozen?, hh]
      rw [Bool.and_eq_false_iff]
      by_cases h : fr.1 ≤ o + i
      · right; simp; omega
      · left; simp; omega
    have hst : (store ((⟨b, o, none⟩ : Addr).add i) v).run P w = .ok () (w.setCell ⟨b, o + i, none⟩ v) := by
      rw [addOff, run_store P w _ v _ (h1 v (by simp)), hcell]
      simp [hfr]
    rw [setCell_setBlk hh] at hst
    have hh2 : (World.setBlk w b (c.setIfInBounds (o + i) v)).heap[b]? = some (.cells (c.setIfInBounds (o + i) v) T fr) := by rw [setBlk_get hh, if_pos rfl]
    obtain ⟨c', h2, h3, h4⟩ := run_storeCells_blk b o T fr vs (i + 1) (c.setIfInBounds (o + i) v) _ hh2 (by simpa using ht) (by simp; omega) (fun u hu => h1 u (by simp [hu]))
    refine ⟨c', ?_, by rw [h3]; simp, fun k => ?_⟩
    · simp only [storeCells, Sem.run_bind, hst, Result.andThen_ok, h2, setBlk_setBlk]
    · rw [h4]
      by_cases hk : k = o + i
      · subst hk
        rw [if_neg (by omega), if_pos (by simp), Array.getElem?_setIfInBounds_self_of_lt hoi]
        simp
      · rw [Array.getElem?_setIfInBounds_ne (Ne.symm hk)]
        by_cases hr : o + (i + 1) ≤ k ∧ k < o + (i + 1) + vs.length
        · rw [if_pos hr, if_pos (by simp; omega), show k - (o + i) = (k - (o + (i + 1))) + 1 by omega]
          simp
        · rw [if_neg hr, if_neg (by simp; omega)]

theorem putAt_get : ∀ (ds cs : List DV) (off k : Nat), off + ds.length ≤ cs.length → (putAt cs off ds)[k]? = if off ≤ k ∧ k < off + ds.length then ds[k - off]? else cs[k]?
  | [], cs, off, k, _ => by rw [if_neg (by rintro ⟨h1, h2⟩; simp at h2; omega)]; rfl
  | d :: ds, cs, off, k, h => by
    simp only [List.length_cons] at h
    simp only [putAt]
    rw [putAt_get ds _ _ _ (by simp; omega)]
    by_cases hk : k = off
    · subst hk
      rw [if_neg (by omega), if_pos (by simp), List.getElem?_set_self (by omega)]
      simp
    · rw [List.getElem?_set_ne (Ne.symm hk)]
      by_cases hr : off + 1 ≤ k ∧ k < off + 1 + ds.length
      · rw [if_pos hr, if_pos (by simp; omega), show k - off = (k - (off + 1)) + 1 by omega]
        simp
      · rw [if_neg hr, if_neg (by simp; omega)]

/-- The cells written, read again. -/
theorem put_rep {C : Cx} {cs ds : List DV} {c c' : Array Value} {vs : List Value} {off : Nat} (hc : RepL C cs c.toList) (hd : RepL C ds vs) (hl : vs.length = ds.length) (ho : off + ds.length ≤ cs.length)
    (h : ∀ k, c'[k]? = if off ≤ k ∧ k < off + vs.length then vs[k - off]? else c[k]?) : RepL C (putAt cs off ds) c'.toList := by
  refine RepL.of_get fun k d hk => ?_
  rw [putAt_get ds cs off k ho] at hk
  rw [Array.getElem?_toList, h, hl]
  split at hk
  · rename_i hr; rw [if_pos hr]; exact hd.get _ _ hk
  · rename_i hr; rw [if_neg hr, ← Array.getElem?_toList]; exact hc.get _ _ hk

theorem allOne {C : Cx} : ∀ {ds : List DV} {vs : List Value}, ds.all oneD = true → RepL C ds vs → vs.length = ds.length → ∀ v ∈ vs, v.oneCell' = true
  | [], vs, _, _, hl, v, hv => by have : vs = [] := List.eq_nil_of_length_eq_zero (by simpa using hl); subst this; simp at hv
  | d :: ds, [], _, r, _, _, _ => by simp only [RepL] at r
  | d :: ds, u :: vs, h, r, hl, v, hv => by
    simp only [List.all_cons, Bool.and_eq_true] at h
    simp only [RepL] at r
    rcases List.mem_cons.1 hv with rfl | hv
    · exact oneD_ok h.1 r.1
    · exact allOne h.2 r.2 (by simpa using hl) v hv

/-- A row of cells is written into an object. -/
theorem write_C {i g off : Nat} {ds : List DV} {so so' : SO} {p : Prop} {d : DV} (h : wrC g off ds so = some (p, so', d)) (hp0 : p) {pl : Nat → Nat → Pl} {S : List SO} {w : World} (hg : Good W0 pl S w) (hs : S[i]? = some so) {b : Nat} (hp : pl i g = .blk b)
    {vs : List Value} (hd : RepL (cxOf w pl S) ds vs) (hl : vs.length = ds.length) (h1 : ∀ v ∈ vs, v.oneCell' = true) :
    ∃ w', (storeCells ⟨b, off, none⟩ vs).run P w = .ok () w' ∧ Good W0 pl (S.set i so') w' ∧ CxLe (cxOf w pl S) (cxOf w' pl (S.set i so')) := by
  have ho := hg.objs i so hs
  cases so with
  | cells g' cs =>
    simp only [wrC] at h
    split at h
    · rename_i he; subst he
      simp only [Option.some.injEq, Prod.mk.injEq] at h
      obtain ⟨rfl, rfl, _⟩ := h
      obtain ⟨b2, c, T, fr, hp2, hh, hth, hsz, hr⟩ := ho
      have hp3 : pl i g' = .blk b2 := hp2
      rw [hp] at hp3
      cases hp3
      obtain ⟨c', h2, h3, h4⟩ := run_storeCells_blk (P := P) b off T fr vs 0 c w hh hth (by omega) h1
      obtain ⟨k1, k2⟩ := hg.turn (so' := .cells g' (putAt cs off ds)) (c' := c') hs rfl rfl hp hh h3 (fun C hC hpl hhC => ⟨b, c', T, fr, by rw [hpl]; exact hp, hhC, by rw [h3]; exact hth, by rw [h3, putAt_len]; exact hsz,
        put_rep (RepL.mono hC _ _ hr) (RepL.mono hC _ _ hd) hl hp0 (by simpa using h4)⟩)
      exact ⟨_, h2, k1, k2⟩
    · cases h
  | _ => simp [wrC] at h

theorem RepL_at {C : Cx} {e : List DV} {vs : List Value} {o : Nat} (h : RepL C e (vs.drop o)) (j : Nat) (d : DV) (hd : e[j]? = some d) : ∃ v, vs[o + j]? = some v ∧ Rep C d v := by
  obtain ⟨v, h1, h2⟩ := h.get j d hd
  rw [List.getElem?_drop] at h1
  exact ⟨v, h1, h2⟩

/-- One element of a row is written. -/
theorem putE_rep {C : Cx} {sz : Nat} {es : List (List DV)} {ds : List DV} {c c' : Array Value} {vs : List Value} {k o : Nat} (hc : RepLL C sz es c.toList) (hd : RepL C ds vs) (hl : vs.length = ds.length) (hk : k < es.length) (ho : o + ds.length ≤ sz)
    (h : ∀ j, c'[j]? = if k * sz + o ≤ j ∧ j < k * sz + o + vs.length then vs[j - (k * sz + o)]? else c[j]?) : RepLL C sz (es.set k (putAt (atE es k) o ds)) c'.toList := by
  refine RepLL.of_get fun i e he => ?_
  rw [List.getElem?_set] at he
  by_cases hik : k = i
  · subst hik
    rw [if_pos rfl, if_pos hk] at he
    cases he
    obtain ⟨h1, h2⟩ := hc.len k _ (atE_some hk)
    refine ⟨by rw [putAt_len]; exact h1, RepL.of_get fun j d hj => ?_⟩
    rw [putAt_get _ _ _ _ (by rw [h1]; exact ho)] at hj
    rw [List.getElem?_drop, Array.getElem?_toList, h]
    split at hj
    · rename_i hr
      rw [if_pos (by omega), show k * sz + j - (k * sz + o) = j - o by omega]
      exact hd.get _ _ hj
    · rename_i hr
      rw [if_neg (by omega), ← Array.getElem?_toList]
      exact RepL_at h2 j d hj
  · rw [if_neg hik] at he
    obtain ⟨h1, h2⟩ := hc.len i e he
    refine ⟨h1, RepL.of_get fun j d hj => ?_⟩
    have hjl : j < sz := by rw [← h1]; exact (List.getElem?_eq_some_iff.1 hj).1
    rw [List.getElem?_drop, Array.getElem?_toList, h, if_neg, ← Array.getElem?_toList]
    · exact RepL_at h2 j d hj
    · rintro ⟨h3, h4⟩
      rcases Nat.lt_or_gt_of_ne hik with hlt | hgt
      · have : (k + 1) * sz ≤ i * sz := Nat.mul_le_mul_right _ hlt
        rw [Nat.add_mul] at this
        omega
      · have : (i + 1) * sz ≤ k * sz := Nat.mul_le_mul_right _ hgt
        rw [Nat.add_mul] at this
        omega

theorem write_E {i g sz k o : Nat} {ds : List DV} {so so' : SO} {p : Prop} {d : DV} (h : wrE g sz k o ds so = some (p, so', d)) (hp0 : p) {pl : Nat → Nat → Pl} {S : List SO} {w : World} (hg : Good W0 pl S w) (hs : S[i]? = some so) {b : Nat} (hp : pl i g = .blk b)
    {vs : List Value} (hd : RepL (cxOf w pl S) ds vs) (hl : vs.length = ds.length) (h1 : ∀ v ∈ vs, v.oneCell' = true) :
    ∃ w', (storeCells ⟨b, k * sz + o, none⟩ vs).run P w = .ok () w' ∧ Good W0 pl (S.set i so') w' ∧ CxLe (cxOf w pl S) (cxOf w' pl (S.set i so')) := by
  have ho := hg.objs i so hs
  cases so with
  | row g' sz' es =>
    simp only [wrE] at h
    split at h
    · rename_i he; obtain ⟨rfl, rfl⟩ := he
      simp only [Option.some.injEq, Prod.mk.injEq] at h
      obtain ⟨rfl, rfl, _⟩ := h
      rcases ho with ⟨_, rfl⟩ | ⟨b2, c, T, fr, hp2, hh, hth, hr⟩
      · simp at hp0
      · have hp3 : pl i g' = .blk b2 := hp2
        rw [hp] at hp3
        cases hp3
        have hle := (hr.len k _ (atE_some hp0.1))
        have hle2 := hle.2.le
        rw [hle.1] at hle2
        simp only [List.length_drop, Array.length_toList] at hle2
        obtain ⟨c', h2, h3, h4⟩ := run_storeCells_blk (P := P) b (k * sz' + o) T fr vs 0 c w hh hth (by
          by_cases hz : ds.length = 0
          · by_cases hs0 : sz' = 0
            · subst hs0; simp at hp0; omega
            · omega
          · omega) h1
        obtain ⟨k1, k2⟩ := hg.turn (so' := .row g' sz' (es.set k (putAt (atE es k) o ds))) (c' := c') hs rfl rfl hp hh h3 (fun C hC hpl hhC => .inr ⟨b, c', T, fr, by rw [hpl]; exact hp, hhC, by rw [h3]; exact hth,
          putE_rep (RepLL.mono hC _ _ _ hr) (RepL.mono hC _ _ hd) hl hp0.1 hp0.2 (by simpa using h4)⟩)
        exact ⟨_, h2, k1, k2⟩
    · cases h
  | _ => simp [wrE] at h
end

/-! ### addresses -/
def fFieldAddr (P : Program) (t : TypeId) (f : Nat) (d : DV) : OpR := match fldO P t f with
  | some (o, _) => match d with
    | .loc i g off => .need True (.loc i g (off + o))
    | .el i g sz k f => .need True (.el i g sz k (f + o))
    | .imm cs => .need True (.imm (cs.drop o))
    | _ => .bad
  | none => .bad

def fField (P : Program) (t : TypeId) (f : Nat) (d : DV) : OpR := match fldO P t f with
  | some (o, ft) => match szO P ft, aggO P ft, d with
    | some n, some b, .agg cs => match takeD b n (cs.drop o) with | some d => .need True d | none => .bad
    | _, _, _ => .bad
  | none => .bad

def fIndexAddr (P : Program) (t : TypeId) (d ix : DV) : OpR := match ix with
  | .raw (.int _ i) => match slO P t with
    | some e => match szO P e with
      | some s => match d with
        | .lst sz _ es => if s = sz then .need (0 ≤ i ∧ i < (es.length : Int)) (.imm (atE es i.toNat)) else .bad
        | .row j g sz off len => if s = sz then .need (0 ≤ i ∧ i < (len : Int)) (.el j g sz (off + i.toNat) 0) else .bad
        | _ => .bad
      | none => .bad
    | none => match arO P t with
      | some (n, e) => match szO P e with
        | some s => match d with
          | .loc j g off => .need (0 ≤ i ∧ i < (n : Int)) (.loc j g (off + i.toNat * s))
          | .imm cs => .need (0 ≤ i ∧ i < (n : Int)) (.imm (cs.drop (i.toNat * s)))
          | _ => .bad
        | none => .bad
      | none => .bad
  | _ => .bad

/-- The byte at a place. -/
def bytD (s : ByteArray) (i : Nat) : Int := ((s[i]?).map fun b => (b.toNat : Int)).getD 0

def fIndex (P : Program) (t : TypeId) (d ix : DV) : OpR := match ix with
  | .raw (.int _ i) => match d with
    | .raw (.string s) => if isStr P t then .need (0 ≤ i ∧ i < (s.size : Int)) (.raw (.int .u8 (bytD s i.toNat))) else .bad
    | _ => .bad
  | _ => .bad

section
variable {P : Program} {W0 : World} {C : Cx} {w : World}

theorem run_fieldAt {t f o ft : Nat} (h : fldO P t f = some (o, ft)) {b off : Nat} : (Instr.fieldAt t (.pointer (some ⟨b, off, none⟩)) f).run P w = .ok (.pointer (some ⟨b, off + o, none⟩)) w := by
  obtain ⟨fs, fd, hu, hf, rfl, rfl, n, hsz⟩ := fld_under h
  simp [Instr.fieldAt, run_underlying hu, hf, Instr.sureAddr, fieldPlace, run_sizeOf hsz, addOff]
end
end Go.Dv
/-
  What each operation does with deep values: slices, texts gone through, calls; and the table of all.
-/
namespace Go.Dv
set_option linter.unusedVariables false
set_option linter.unusedSimpArgs false
open Go Go.RowKit

/-! ### slices -/
def bnd : Option DV → Int → Option Int
  | none, d => some d
  | some (.raw (.int _ i)), _ => some i
  | _, _ => none

/-- The elements between two bounds. -/
def slcL (es : List (List DV)) : Option DV → Option DV → Int → Int → List (List DV)
  | none, none, _, _ => es
  | some _, none, l, _ => es.drop l.toNat
  | none, some _, _, h => es.take h.toNat
  | some _, some _, l, h => (es.take h.toNat).drop l.toNat

def fSlice (P : Program) (t : TypeId) (d : DV) (lo hi mx : Option DV) : OpR := match d with
  | .raw (.string s) => match isStr P t, bnd lo 0, bnd hi s.size, mx with
    | true, some l, some h, none => .need (0 ≤ l ∧ l ≤ h ∧ h ≤ (s.size : Int)) (.raw (.string (s.extract l.toNat h.toNat)))
    | _, _, _, _ => .bad
  | .raw (.slice none 0 0) => match slO P t, bnd lo 0, bnd hi 0, mx with
    | some e, some l, some h, none => match szO P e with
      | some _ => .need (l = 0 ∧ h = 0) d
      | none => .bad
    | _, _, _, _ => .bad
  | .lst sz full es => match slO P t, bnd lo 0, bnd hi es.length with
    | some e, some l, some h => if szO P e = some sz then
        match mx with
        | none => .need (0 ≤ l ∧ l ≤ h ∧ h ≤ (es.length : Int)) (.lst sz (full && hi.isNone) (slcL es lo hi l h))
        | some (.raw (.int _ m)) => if hi.isSome then .need (0 ≤ l ∧ l ≤ h ∧ h = m ∧ h ≤ (es.length : Int)) (.lst sz true (slcL es lo hi l h)) else .bad
        | _ => .bad
      else .bad
    | _, _, _ => .bad
  | .row i g sz off len => match slO P t, bnd lo 0, bnd hi len, mx with
    | some e, some l, some h, none => if szO P e = some sz then .need (0 ≤ l ∧ l ≤ h ∧ h ≤ (len : Int)) (.row i g sz (off + l.toNat) (h.toNat - l.toNat)) else .bad
    | _, _, _, _ => .bad
  | _ => .bad

section
variable {P : Program} {W0 : World} {C : Cx} {w : World}

theorem run_bound {lo : Option DV} {vlo : Option Value} {dflt : Int} {l : Int} (h : bnd lo dflt = some l) (hr : ∀ d, lo = some d → ∃ v, vlo = some v ∧ Rep C d v) (hn : lo = none → vlo = none) :
    (lo = none ∧ vlo = none ∧ l = dflt) ∨ ∃ k, lo = some (.raw (.int k l)) ∧ vlo = some (.int k l) := by
  cases lo with
  | none => simp only [bnd, Option.some.injEq] at h; exact .inl ⟨rfl, hn rfl, h.symm⟩
  | some d =>
    obtain ⟨v, rfl, hv⟩ := hr d rfl
    cases d with
    | raw u => cases u with
      | int k i => simp only [bnd, Option.some.injEq] at h; subst h; simp only [Rep] at hv; subst hv; exact .inr ⟨k, rfl, rfl⟩
      | _ => simp [bnd] at h
    | _ => simp [bnd] at h

/-- The bounds of a slice expression without a third index. -/
theorem run_sliceBounds {isSlice : Bool} {len cap : Nat} {vlo vhi : Option Value} {l h : Int} (hl : vlo = none ∧ l = 0 ∨ ∃ k, vlo = some (.int k l)) (hh : vhi = none ∧ h = len ∨ ∃ k, vhi = some (.int k h)) (h0 : 0 ≤ l) (h1 : l ≤ h) (h2 : h ≤ cap) :
    (Instr.sliceBounds isSlice len cap vlo vhi none).run P w = .ok (l.toNat, h.toNat, cap) w := by
  have sb : ∀ (k : IntKind) (i : Int) (y : Nat) (c : BoundsCode), 0 ≤ i → i ≤ y → (Instr.sliceBound (.int k i) y c).run P w = .ok i.toNat w := by
    intro k i y c hi hy
    simp [Instr.sliceBound, asIntOf, hi, hy]
  rcases hh with ⟨rfl, rfl⟩ | ⟨k, rfl⟩ <;> rcases hl with ⟨rfl, rfl⟩ | ⟨k', rfl⟩
  · simp [Instr.sliceBounds]
  · simp only [Instr.sliceBounds, Sem.run_bind, Sem.run_pure, Result.andThen_ok, Option.isSome_none, Bool.false_eq_true, if_false, sb k' l len .sliceB h0 h1]
    simp
  · simp only [Instr.sliceBounds, Sem.run_bind, Sem.run_pure, Result.andThen_ok, sb k h cap _ (by omega) h2]
    simp
  · simp only [Instr.sliceBounds, Sem.run_bind, Sem.run_pure, Result.andThen_ok, sb k h cap _ (by omega) h2, Option.isSome_none, Bool.false_eq_true, if_false, sb k' l h.toNat .sliceB h0 (by omega)]

theorem run_sliceBounds3 {len cap : Nat} {vlo vhi : Option Value} {k : IntKind} {l h m : Int} (hl : vlo = none ∧ l = 0 ∨ ∃ k, vlo = some (.int k l)) (hh : ∃ k, vhi = some (.int k h)) (h0 : 0 ≤ l) (h1 : l ≤ h) (h2 : h = m) (h3 : h ≤ cap) :
    (Instr.sliceBounds true len cap vlo vhi (some (.int k m))).run P w = .ok (l.toNat, h.toNat, h.toNat) w := by
  have sb : ∀ (k : IntKind) (i : Int) (y : Nat) (c : BoundsCode), 0 ≤ i → i ≤ y → (Instr.sliceBound (.int k i) y c).run P w = .ok i.toNat w := by
    intro k i y c hi hy
    simp [Instr.sliceBound, asIntOf, hi, hy]
  subst h2
  obtain ⟨k2, rfl⟩ := hh
  rcases hl with ⟨rfl, rfl⟩ | ⟨k', rfl⟩
  · simp only [Instr.sliceBounds, Sem.run_bind, Sem.run_pure, Result.andThen_ok, sb k h cap _ (by omega) h3, sb k2 h h.toNat _ (by omega) (by omega)]
    simp
  · simp only [Instr.sliceBounds, Sem.run_bind, Sem.run_pure, Result.andThen_ok, sb k h cap _ (by omega) h3, sb k2 h h.toNat _ (by omega) (by omega), sb k' l h.toNat _ h0 (by omega)]

theorem slcL_rep {es : List (List DV)} {lo hi : Option DV} {l h : Int} (hlo : lo = none → l = 0) (hhi : hi = none → h = es.length) (h0 : 0 ≤ l) (h1 : l ≤ h) (h2 : h ≤ (es.length : Int)) :
    slcL es lo hi l h = (es.take h.toNat).drop l.toNat := by
  cases lo with
  | none =>
    have := hlo rfl
    subst this
    cases hi with
    | none => have := hhi rfl; subst this; simp [slcL]
    | some _ => simp [slcL]
  | some _ =>
    cases hi with
    | none => have := hhi rfl; subst this; simp [slcL]
    | some _ => rfl

theorem run_slice {t : TypeId} {d : DV} {lo hi mx : Option DV} {p : Prop} {d' : DV} (h : fSlice P t d lo hi mx = .need p d') (hp : p) {v : Value} {vlo vhi vmx : Option Value} (hv : Rep C d v)
    (hlo : ∀ x, lo = some x → ∃ u, vlo = some u ∧ Rep C x u) (hlo0 : lo = none → vlo = none) (hhi : ∀ x, hi = some x → ∃ u, vhi = some u ∧ Rep C x u) (hhi0 : hi = none → vhi = none)
    (hmx : ∀ x, mx = some x → ∃ u, vmx = some u ∧ Rep C x u) (hmx0 : mx = none → vmx = none) : ∃ v', (Instr.sliceAt t v vlo vhi vmx).run P w = .ok v' w ∧ Rep C d' v' := by
  unfold fSlice at h
  split at h
  · -- a text
    rename_i s
    simp only [Rep] at hv
    subst hv
    split at h
    · rename_i l hh ht hl hb
      cases h
      have := hmx0 rfl
      subst this
      have e1 := run_bound hl hlo hlo0
      have e2 := run_bound hb hhi hhi0
      have hs := run_sliceBounds (P := P) (w := w) (isSlice := false) (len := s.size) (cap := s.size) (vlo := vlo) (vhi := vhi) (l := l) (h := hh)
        (by rcases e1 with ⟨_, h1, h2⟩ | ⟨k, _, h2⟩; exact .inl ⟨h1, h2⟩; exact .inr ⟨k, h2⟩) (by rcases e2 with ⟨_, h1, h2⟩ | ⟨k, _, h2⟩; exact .inl ⟨h1, h2⟩; exact .inr ⟨k, h2⟩) hp.1 hp.2.1 hp.2.2
      refine ⟨_, ?_, by simp only [Rep]; rfl⟩
      simp only [Instr.sliceAt, Sem.run_bind, run_underlying (str_under ht), Result.andThen_ok, Instr.slice, Option.isSome_none, Bool.false_eq_true, if_false, Sem.run_pure, hs]
    · cases h
  · -- nil
    simp only [Rep] at hv
    subst hv
    split at h
    · rename_i e l hh he hl hb
      split at h
      · rename_i n hn
        cases h
        have := hmx0 rfl
        subst this
        obtain ⟨rfl, rfl⟩ := hp
        have e1 := run_bound hl hlo hlo0
        have e2 := run_bound hb hhi hhi0
        have hs := run_sliceBounds (P := P) (w := w) (isSlice := true) (len := 0) (cap := 0) (vlo := vlo) (vhi := vhi) (l := 0) (h := 0)
          (by rcases e1 with ⟨_, h1, h2⟩ | ⟨k, _, h2⟩; exact .inl ⟨h1, rfl⟩; exact .inr ⟨k, h2⟩) (by rcases e2 with ⟨_, h1, h2⟩ | ⟨k, _, h2⟩; exact .inl ⟨h1, rfl⟩; exact .inr ⟨k, h2⟩) (by omega) (by omega) (by omega)
        refine ⟨_, ?_, by simp only [Rep]; rfl⟩
        simp only [Instr.sliceAt, Sem.run_bind, run_underlying (sl_under he), Result.andThen_ok, Instr.slice, hs, run_sizeOf hn, Sem.run_pure]
        rfl
      · cases h
    · cases h
  · -- a list
    rename_i sz full es
    split at h
    · rename_i e l hh he hl hb
      split at h
      · rename_i hn
        simp only [Rep] at hv
        obtain ⟨A, cap, rfl, hc1, hc2, hc3, hc4⟩ := hv
        have e1 := run_bound hl hlo hlo0
        have e2 := run_bound hb hhi hhi0
        have l1 : vlo = none ∧ l = 0 ∨ ∃ k, vlo = some (.int k l) := by rcases e1 with ⟨_, h1, h2⟩ | ⟨k, _, h2⟩; exact .inl ⟨h1, h2⟩; exact .inr ⟨k, h2⟩
        have l2 : vhi = none ∧ hh = es.length ∨ ∃ k, vhi = some (.int k hh) := by rcases e2 with ⟨_, h1, h2⟩ | ⟨k, _, h2⟩; exact .inl ⟨h1, h2⟩; exact .inr ⟨k, h2⟩
        have key : ∀ (cap' : Nat), 0 ≤ l → l ≤ hh → hh ≤ (es.length : Int) → hh.toNat ≤ cap' → (full' : Bool) → (full' = true → cap' = hh.toNat) → cap' ≤ cap → Rep C (.lst sz full' (slcL es lo hi l hh)) (.slice (if cap' = l.toNat then A else A.map (·.add (l.toNat * sz))) (hh.toNat - l.toNat) (cap' - l.toNat)) := by
          intro cap' g0 g1 g2 g3 full' g4 g5
          rw [slcL_rep (lo := lo) (hi := hi) (fun h => by rcases e1 with ⟨_, _, h2⟩ | ⟨_, h2, _⟩; exact h2; rw [h] at h2; cases h2) (fun h => by rcases e2 with ⟨_, _, h2⟩ | ⟨_, h2, _⟩; exact h2; rw [h] at h2; cases h2) g0 g1 g2]
          have hlen : ((es.take hh.toNat).drop l.toNat).length = hh.toNat - l.toNat := by rw [List.length_drop, List.length_take]; omega
          simp only [Rep]
          rw [hlen]
          refine ⟨_, _, rfl, by omega, fun hf => by rw [g4 hf], ?_, ?_⟩
          · intro hA
            split at hA
            · rename_i hcl; omega
            · rename_i hcl
              cases A with
              | none => have := hc3 rfl; omega
              | some a => cases hA
          · rcases hc4 with rfl | ⟨b, off, c, T, fr, rfl, hm, hhp, hr⟩
            · left; simp
            · by_cases hcl : cap' = l.toNat
              · left
                have : hh.toNat - l.toNat = 0 := by omega
                exact List.eq_nil_of_length_eq_zero (by rw [hlen, this])
              · right
                rw [if_neg hcl]
                refine ⟨b, off + l.toNat * sz, c, T, fr, by simp [addOff], hm, hhp, ?_⟩
                have := (hr.take hh.toNat).drop l.toNat
                rw [List.drop_drop] at this
                exact this
        split at h
        · cases h
          have := hmx0 rfl
          subst this
          have hs := run_sliceBounds (P := P) (w := w) (isSlice := true) (len := es.length) (cap := cap) l1 l2 hp.1 hp.2.1 (by omega)
          refine ⟨_, ?_, key cap hp.1 hp.2.1 hp.2.2 (by omega) _ ?_ (Nat.le_refl _)⟩
          · simp only [Instr.sliceAt, Sem.run_bind, run_underlying (sl_under he), Result.andThen_ok, Instr.slice, hs, run_sizeOf hn, Sem.run_pure]
          · intro hf
            rw [Bool.and_eq_true] at hf
            have hi0 : hi = none := by simpa using hf.2
            have := hc2 hf.1
            rcases e2 with ⟨_, _, h2⟩ | ⟨_, h2, _⟩
            · omega
            · rw [hi0] at h2; cases h2
        · rename_i k m
          split at h
          · rename_i his
            cases h
            obtain ⟨u, rfl, hu⟩ := hmx _ rfl
            simp only [Rep] at hu
            subst hu
            obtain ⟨p1, p2, p3, p4⟩ := hp
            have l2' : ∃ k, vhi = some (.int k hh) := by
              rcases e2 with ⟨h1, _, _⟩ | ⟨k, _, h1⟩
              · rw [h1] at his; cases his
              · exact ⟨k, h1⟩
            have hs := run_sliceBounds3 (P := P) (w := w) (len := es.length) (cap := cap) (k := k) l1 l2' p1 p2 p3 (by omega)
            refine ⟨_, ?_, key hh.toNat p1 p2 p4 (Nat.le_refl _) true (fun _ => rfl) (by omega)⟩
            simp only [Instr.sliceAt, Sem.run_bind, run_underlying (sl_under he), Result.andThen_ok, Instr.slice, hs, run_sizeOf hn, Sem.run_pure]
          · cases h
        · cases h
      · cases h
    · cases h
  · -- a row of one's own
    rename_i i g sz off len
    split at h
    · rename_i e l hh he hl hb
      split at h
      · rename_i hn
        cases h
        have := hmx0 rfl
        subst this
        have e1 := run_bound hl hlo hlo0
        have e2 := run_bound hb hhi hhi0
        have l1 : vlo = none ∧ l = 0 ∨ ∃ k, vlo = some (.int k l) := by rcases e1 with ⟨_, h1, h2⟩ | ⟨k, _, h2⟩; exact .inl ⟨h1, h2⟩; exact .inr ⟨k, h2⟩
        have l2 : vhi = none ∧ hh = len ∨ ∃ k, vhi = some (.int k hh) := by rcases e2 with ⟨_, h1, h2⟩ | ⟨k, _, h2⟩; exact .inl ⟨h1, h2⟩; exact .inr ⟨k, h2⟩
        simp only [Rep] at hv
        rcases hv with ⟨hno, rfl, rfl, A, rfl⟩ | ⟨b, o', cap, c, T, fr, hpl, rfl, ho, hc1, hc2, hhp, hc3⟩
        · have hs := run_sliceBounds (P := P) (w := w) (isSlice := true) (len := 0) (cap := 0) (vlo := vlo) (vhi := vhi) (l := l) (h := hh) l1 l2 hp.1 hp.2.1 (by omega)
          have hl0 : l.toNat = 0 := by omega
          have hh0 : hh.toNat = 0 := by omega
          refine ⟨.slice A 0 0, ?_, by simp only [Rep]; rw [hl0, hh0]; exact .inl ⟨hno, rfl, rfl, A, rfl⟩⟩
          simp only [Instr.sliceAt, Sem.run_bind, run_underlying (sl_under he), Result.andThen_ok, Instr.slice, hs, run_sizeOf hn, Sem.run_pure, hl0, hh0]
          rfl
        · have hs := run_sliceBounds (P := P) (w := w) (isSlice := true) (len := len) (cap := cap) (vlo := vlo) (vhi := vhi) (l := l) (h := hh) l1 l2 hp.1 hp.2.1 (by omega)
          refine ⟨.slice (if cap = l.toNat then some ⟨b, o', none⟩ else some ⟨b, o' + l.toNat * sz, none⟩) (hh.toNat - l.toNat) (cap - l.toNat), ?_, ?_⟩
          · simp only [Instr.sliceAt, Sem.run_bind, run_underlying (sl_under he), Result.andThen_ok, Instr.slice, hs, run_sizeOf hn, Sem.run_pure, Option.map_some, addOff]
          · simp only [Rep]
            right
            by_cases hcl : cap = l.toNat
            · refine ⟨b, o', cap - l.toNat, c, T, fr, hpl, by rw [if_pos hcl], .inr (by omega), by omega, by omega, hhp, ?_⟩
              rw [show off + l.toNat + (cap - l.toNat) = off + cap by omega]; exact hc3
            · refine ⟨b, o' + l.toNat * sz, cap - l.toNat, c, T, fr, hpl, by rw [if_neg hcl], ?_, by omega, by omega, hhp, ?_⟩
              · rcases ho with rfl | ho
                · left; rw [Nat.add_mul]
                · omega
              · rw [show off + l.toNat + (cap - l.toNat) = off + cap by omega]; exact hc3
      · cases h
    · cases h
  · cases h
end
end Go.Dv
/-
  What each operation does with deep values: append.
-/
namespace Go.Dv
set_option linter.unusedVariables false
set_option linter.unusedSimpArgs false
open Go Go.RowKit

theorem Good.drew {W0 : World} {pl : Nat → Nat → Pl} {S : List SO} {w : World} (h : Good W0 pl S w) : Good W0 pl S w.drew :=
  ⟨⟨h.below.os, h.below.tape, h.below.output, h.below.size, h.below.block⟩, h.objs, h.inj, h.high, h.fresh⟩

def upd (pl : Nat → Nat → Pl) (j g : Nat) (q : Pl) : Nat → Nat → Pl := fun i g' => if i = j ∧ g' = g then q else pl i g'

/-- An object in a new generation: it stays where it was, or comes into a new block, or is nowhere. -/
theorem Good.move {W0 : World} {pl : Nat → Nat → Pl} {S : List SO} {w w' : World} (hg : Good W0 pl S w) {j g g' : Nat} {so so' : SO} {q : Pl} (hs : S[j]? = some so) (hgen : so.gen = some g) (hgen' : so'.gen = some g') (hun : pl j g' = .un)
    (hos : w'.os = w.os) (htape : w'.tape = w.tape) (hout : w'.output = w.output) (hsz : w.heap.size ≤ w'.heap.size)
    (hq : q = .nowhere ∨ ∃ b, q = .blk b ∧ b < w'.heap.size ∧ (pl j g = .blk b ∨ w.heap.size ≤ b))
    (hheap : ∀ x, x < w.heap.size → pl j g ≠ .blk x → w'.heap[x]? = w.heap[x]?)
    (hshape : ∀ (x : Nat) (c : Array Value) (T : TypeId) (fr : Nat × Nat), pl j g = .blk x → w.heap[x]? = some (.cells c T fr) → ∃ (c' : Array Value) (fr' : Nat × Nat), w'.heap[x]? = some (.cells c' T fr') ∧ c'.size = c.size)
    (hok : ∀ C : Cx, CxLe (cxOf w pl S) C → C.pl j g' = q → C.heap = w'.heap → ObjOk C j so') :
    Good W0 (upd pl j g' q) (S.set j so') w' ∧ CxLe (cxOf w pl S) (cxOf w' (upd pl j g' q) (S.set j so')) := by
  have hj := (List.getElem?_eq_some_iff.1 hs).1
  have hmut : ∀ x, Mut (upd pl j g' q) (S.set j so') x → (q = .blk x ∨ (Mut pl S x ∧ pl j g ≠ .blk x)) := by
    rintro x ⟨i, o, g1, h1, h2, h3⟩
    by_cases he : i = j
    · subst he
      rw [List.getElem?_set_self hj] at h1
      cases h1
      rw [hgen'] at h2
      cases h2
      simp only [upd, and_self, if_true] at h3
      exact .inl h3
    · rw [List.getElem?_set_ne (Ne.symm he)] at h1
      simp only [upd, he, false_and, if_false] at h3
      exact .inr ⟨⟨i, o, g1, h1, h2, h3⟩, fun h => he (hg.inj i j o so g1 g x h1 hs h2 hgen h3 h)⟩
  have hmb : ∀ x, pl j g = .blk x → Mut pl S x := fun x h => ⟨j, so, g, hs, hgen, h⟩
  have hle : CxLe (cxOf w pl S) (cxOf w' (upd pl j g' q) (S.set j so')) := by
    refine ⟨?_, ?_, ?_⟩
    · intro i g1 hu
      show (if i = j ∧ g1 = g' then q else pl i g1) = pl i g1
      rw [if_neg]
      rintro ⟨rfl, rfl⟩
      exact hu hun
    · intro x o hx hm
      have hx' : w.heap[x]? = some o := hx
      have hlt : x < w.heap.size := (Array.getElem?_eq_some_iff.1 hx').1
      have hne : pl j g ≠ .blk x := fun h => hm (hmb x h)
      refine ⟨by show w'.heap[x]? = some o; rw [hheap x hlt hne]; exact hx', fun h => ?_⟩
      rcases hmut x h with h | h
      · rcases hq with hq | ⟨b, hq, _, h2 | h2⟩
        · rw [hq] at h; cases h
        · rw [hq] at h; cases h; exact hne h2
        · rw [hq] at h; cases h; omega
      · exact hm h.1
    · intro x c T fr hx
      have hx' : w.heap[x]? = some (.cells c T fr) := hx
      have hlt : x < w.heap.size := (Array.getElem?_eq_some_iff.1 hx').1
      by_cases hne : pl j g = .blk x
      · exact hshape x c T fr hne hx'
      · exact ⟨c, fr, by show w'.heap[x]? = _; rw [hheap x hlt hne]; exact hx', rfl⟩
  refine ⟨⟨?_, ?_, ?_, ?_, ?_⟩, hle⟩
  · refine hg.below.trans ⟨hos, htape, hout, hsz, fun k hk => hheap k (Nat.lt_of_lt_of_le hk hg.below.size) fun h => ?_⟩
    have := (hg.high k (hmb k h)).1
    omega
  · intro i o hi
    by_cases he : i = j
    · subst he
      rw [List.getElem?_set_self hj] at hi
      cases hi
      exact hok _ hle (by show (if i = i ∧ g' = g' then q else _) = q; simp) rfl
    · rw [List.getElem?_set_ne (Ne.symm he)] at hi
      have ho := hg.objs i o hi
      refine ho.mono hle (fun g1 hg1 => ?_) ?_
      · subst hg1
        show (if i = j ∧ g1 = g' then q else pl i g1) = .un
        rw [if_neg (fun h => he h.1)]
        exact ho
      · rintro x ⟨g1, h1, h2⟩
        exact hheap x (hg.high x ⟨i, o, g1, hi, h1, h2⟩).2 (fun h => he (hg.inj i j o so g1 g x hi hs h1 hgen h2 h))
  · have key : ∀ {i : Nat} {o : SO} {g1 x : Nat}, i ≠ j → (S.set j so')[i]? = some o → o.gen = some g1 → upd pl j g' q i g1 = .blk x → Mut pl S x ∧ pl j g ≠ .blk x ∧ S[i]? = some o ∧ pl i g1 = .blk x := by
      intro i o g1 x he hi h1 h3
      rw [List.getElem?_set_ne (Ne.symm he)] at hi
      simp only [upd, he, false_and, if_false] at h3
      exact ⟨⟨i, o, g1, hi, h1, h3⟩, fun h => he (hg.inj i j o so g1 g x hi hs h1 hgen h3 h), hi, h3⟩
    have clash : ∀ {x : Nat}, q = .blk x → Mut pl S x → pl j g ≠ .blk x → False := by
      intro x hqx hm hne
      rcases hq with hq | ⟨b, hq, _, h2 | h2⟩
      · rw [hq] at hqx; cases hqx
      · rw [hq] at hqx; cases hqx; exact hne h2
      · rw [hq] at hqx; cases hqx; have := (hg.high _ hm).2; omega
    intro i k o o' g1 g2 x hi hk h1 h2 h3 h4
    by_cases he : i = j
    · by_cases he2 : k = j
      · rw [he, he2]
      · subst he
        rw [List.getElem?_set_self hj] at hi
        cases hi
        rw [hgen'] at h1
        cases h1
        simp only [upd, and_self, if_true] at h3
        obtain ⟨m1, m2, _⟩ := key he2 hk h2 h4
        exact (clash h3 m1 m2).elim
    · obtain ⟨m1, m2, m3, m4⟩ := key he hi h1 h3
      by_cases he2 : k = j
      · subst he2
        rw [List.getElem?_set_self hj] at hk
        cases hk
        rw [hgen'] at h2
        cases h2
        simp only [upd, and_self, if_true] at h4
        exact (clash h4 m1 m2).elim
      · obtain ⟨_, _, m5, m6⟩ := key he2 hk h2 h4
        exact hg.inj i k o o' g1 g2 x m3 m5 h1 h2 m4 m6
  · intro x hx
    rcases hmut x hx with h | h
    · rcases hq with hq | ⟨b, hq, hlt, h2 | h2⟩
      · rw [hq] at h; cases h
      · rw [hq] at h; cases h
        have := hg.high _ (hmb _ h2)
        exact ⟨this.1, hlt⟩
      · rw [hq] at h; cases h
        exact ⟨Nat.le_trans hg.below.size h2, hlt⟩
    · have := hg.high x h.1
      exact ⟨this.1, Nat.lt_of_lt_of_le this.2 hsz⟩
  · intro i
    obtain ⟨g0, h0⟩ := hg.fresh i
    refine ⟨max g0 (g' + 1), fun g1 hg1 => ?_⟩
    have h1 := Nat.le_trans (Nat.le_max_left g0 (g' + 1)) hg1
    have h2 := Nat.le_trans (Nat.le_max_right g0 (g' + 1)) hg1
    show (if i = j ∧ g1 = g' then q else pl i g1) = .un
    rw [if_neg (fun h => by omega)]
    exact h0 g1 h1

/-- A new object at a place that waits, somewhere or nowhere. -/
theorem Good.newAt {W0 : World} {pl : Nat → Nat → Pl} {S : List SO} {w : World} (hg : Good W0 pl S w) {j g : Nat} {so' : SO} (hs : S[j]? = some (.pend g)) (hgen' : so'.gen = some g)
    (hok : ∀ C : Cx, CxLe (cxOf w pl S) C → C.pl j g = .nowhere → ObjOk C j so') :
    Good W0 (upd pl j g .nowhere) (S.set j so') w ∧ CxLe (cxOf w pl S) (cxOf w (upd pl j g .nowhere) (S.set j so')) := by
  have hun : pl j g = .un := hg.objs j _ hs
  have hj := (List.getElem?_eq_some_iff.1 hs).1
  have hmut : ∀ x, Mut (upd pl j g .nowhere) (S.set j so') x → Mut pl S x := by
    rintro x ⟨i, o, g1, h1, h2, h3⟩
    by_cases he : i = j
    · subst he
      rw [List.getElem?_set_self hj] at h1
      cases h1
      rw [hgen'] at h2
      cases h2
      simp [upd] at h3
    · rw [List.getElem?_set_ne (Ne.symm he)] at h1
      simp only [upd, he, false_and, if_false] at h3
      exact ⟨i, o, g1, h1, h2, h3⟩
  have hle : CxLe (cxOf w pl S) (cxOf w (upd pl j g .nowhere) (S.set j so')) := by
    refine ⟨?_, fun x o hx hm => ⟨hx, fun h => hm (hmut x h)⟩, fun x c T fr hx => ⟨c, fr, hx, rfl⟩⟩
    intro i g1 hu
    show (if i = j ∧ g1 = g then Pl.nowhere else pl i g1) = pl i g1
    rw [if_neg]
    rintro ⟨rfl, rfl⟩
    exact hu hun
  have key : ∀ {i : Nat} {o : SO} {g1 x : Nat}, (S.set j so')[i]? = some o → o.gen = some g1 → upd pl j g .nowhere i g1 = .blk x → S[i]? = some o ∧ pl i g1 = .blk x := by
    intro i o g1 x hi h1 h3
    by_cases he : i = j
    · subst he
      rw [List.getElem?_set_self hj] at hi
      cases hi
      rw [hgen'] at h1
      cases h1
      simp [upd] at h3
    · rw [List.getElem?_set_ne (Ne.symm he)] at hi
      simp only [upd, he, false_and, if_false] at h3
      exact ⟨hi, h3⟩
  refine ⟨⟨hg.below, ?_, ?_, fun x hx => hg.high x (hmut x hx), ?_⟩, hle⟩
  · intro i o hi
    by_cases he : i = j
    · subst he
      rw [List.getElem?_set_self hj] at hi
      cases hi
      exact hok _ hle (by show (if i = i ∧ g = g then Pl.nowhere else _) = _; simp)
    · rw [List.getElem?_set_ne (Ne.symm he)] at hi
      have ho := hg.objs i o hi
      refine ho.mono hle (fun g1 hg1 => ?_) (fun _ _ => rfl)
      subst hg1
      show (if i = j ∧ g1 = g then Pl.nowhere else pl i g1) = .un
      rw [if_neg (fun h => he h.1)]
      exact ho
  · intro i k o o' g1 g2 x hi hk h1 h2 h3 h4
    obtain ⟨a1, a2⟩ := key hi h1 h3
    obtain ⟨b1, b2⟩ := key hk h2 h4
    exact hg.inj i k o o' g1 g2 x a1 b1 h1 h2 a2 b2
  · intro i
    obtain ⟨g0, h0⟩ := hg.fresh i
    refine ⟨max g0 (g + 1), fun g1 hg1 => ?_⟩
    have h1 := Nat.le_trans (Nat.le_max_left g0 (g + 1)) hg1
    have h2 := Nat.le_trans (Nat.le_max_right g0 (g + 1)) hg1
    show (if i = j ∧ g1 = g then Pl.nowhere else pl i g1) = .un
    rw [if_neg (fun h => by omega)]
    exact h0 g1 h1

/-- The elements of a list that is appended. -/
def elemsD (sz : Nat) : DV → Option (List (List DV))
  | .lst s _ es => if s = sz then some es else none
  | .raw (.slice none 0 0) => some []
  | .raw (.slice (some _) 0 _) => some []
  | _ => none

def bytO (P : Program) (t : TypeId) : Option Nat := (P.info? t).map (·.bytes)

def roomP (n by_ : Nat) : Prop := n ≤ 9223372036854775807 ∧ n * by_ ≤ 140737488355328

def apRow (g sz len : Nat) (es2 : List (List DV)) (i by_ : Nat) : SO → Option (Prop × (Nat → SO × DV))
  | .row g' sz' es => if g' = g ∧ sz' = sz then some (roomP (len + es2.length) by_ ∧ len ≤ es.length, fun g2 => (.row g2 sz (es.take len ++ es2), .row i g2 sz 0 (len + es2.length))) else none
  | _ => none

def fAppend (P : Program) (ts : List TypeId) (args : List DV) : OpR := match ts, args with
  | [t, t'], [s, x] => if t' = t then match slO P t with
    | some e => match szO P e, bytO P e, zeroO P e with
      | some sz, some by_, some z => if 0 < sz ∧ z.length = sz then match elemsD sz x with
        | some es2 => match s with
          | .raw (.slice none 0 0) => .al (roomP es2.length by_) (fun g => .row g sz es2) (fun j g => .row j g sz 0 es2.length)
          | .lst s' true [] => if s' = sz then .al (roomP es2.length by_) (fun g => .row g sz es2) (fun j g => .row j g sz 0 es2.length) else .bad
          | .lst s' true (e1 :: es1) => if s' = sz then .al (roomP (es1.length + 1 + es2.length) by_ ∧ es2 ≠ []) (fun g => .row g sz (e1 :: es1 ++ es2)) (fun j g => .row j g sz 0 (es1.length + 1 + es2.length)) else .bad
          | .row i g s' 0 len => if s' = sz then .ap i (apRow g sz len es2 i by_) else .bad
          | _ => .bad
        | none => .bad
        else .bad
      | _, _, _ => .bad
    | none => .bad
    else .bad
  | _, _ => .bad

section
variable {P : Program} {W0 : World} {C : Cx} {w : World}

/-- The cells of a list that is appended. -/
theorem elems_run {sz : Nat} {x : DV} {es2 : List (List DV)} (h : elemsD sz x = some es2) {vx : Value} (hv : Rep C x vx) (hC : C.heap = w.heap) :
    ∃ A cap news, vx = .slice A es2.length cap ∧ (∀ w' : World, w'.heap = w.heap → (Builtin.firstCells sz es2.length vx).run P w' = .ok (List.toArray news) w') ∧ news.length = es2.length * sz ∧ RepLL C sz es2 news := by
  cases x with
  | lst s f es =>
    simp only [elemsD] at h
    split at h
    · rename_i hs
      subst hs
      cases h
      simp only [Rep] at hv
      obtain ⟨A, cap, rfl, h1, h2, h3, h4⟩ := hv
      rcases h4 with rfl | ⟨b, off, c, T, fr, rfl, hm, hh, hr⟩
      · refine ⟨A, cap, [], rfl, fun w' _ => ?_, by simp, by simp only [RepLL]⟩
        cases A <;> simp [Builtin.firstCells, loadCells, loadCellsFrom]
      · have hle : es2.length * s ≤ (c.toList.drop off).length := by
          have := hr.flat.le
          have hfl : es2.flatten.length = es2.length * s := by
            have hall : ∀ e ∈ es2, e.length = s := by
              intro e he
              obtain ⟨i, hi, rfl⟩ := List.getElem_of_mem he
              exact (hr.len i _ (List.getElem?_eq_getElem hi)).1
            clear hr h1 h2 this
            induction es2 with
            | nil => simp
            | cons e es2 ih =>
              simp only [List.flatten_cons, List.length_append, List.length_cons, Nat.add_mul, Nat.one_mul]
              rw [ih (fun e' he' => hall e' (by simp [he'])), hall e (by simp)]
              omega
          omega
        refine ⟨_, cap, (c.toList.drop off).take (es2.length * s), rfl, fun w' hw' => ?_, by rw [List.length_take]; omega, ?_⟩
        · have := run_firstCells_some (P := P) w' s es2.length ⟨b, off, none⟩ es2.length cap ((c.toList.drop off).take (es2.length * s)) (by rw [List.length_take]; omega) (fun j v hj => by
            rw [addOff, cell_of_row w' b (off + j) c T fr (by rw [hw', ← hC]; exact hh)]
            rw [List.getElem?_take] at hj
            split at hj
            · rw [List.getElem?_drop] at hj; rw [← Array.getElem?_toList]; exact hj
            · cases hj)
          exact this
        · refine RepLL.of_get fun i e he => ?_
          obtain ⟨g1, g2⟩ := hr.len i e he
          refine ⟨g1, RepL.of_get fun j d hd => ?_⟩
          obtain ⟨v, k1, k2⟩ := g2.get j d hd
          refine ⟨v, ?_, k2⟩
          have hi := (List.getElem?_eq_some_iff.1 he).1
          have hj := (List.getElem?_eq_some_iff.1 hd).1
          have : (i + 1) * s ≤ es2.length * s := Nat.mul_le_mul_right _ hi
          rw [Nat.add_mul] at this
          rw [List.getElem?_drop, List.getElem?_take, if_pos (by omega), ← List.getElem?_drop]
          exact k1
    · cases h
  | raw u =>
    simp only [Rep] at hv
    subst hv
    cases vx <;> first | (simp [elemsD] at h; done) | skip
    rename_i a n c
    cases a with
    | some a =>
      cases n with
      | succ _ => simp [elemsD] at h
      | zero =>
        simp only [elemsD, Option.some.injEq] at h
        subst h
        exact ⟨some a, c, [], rfl, fun w' _ => by simp [Builtin.firstCells, loadCells, loadCellsFrom], by simp, by simp only [RepLL]⟩
    | none =>
      cases n with
      | succ _ => simp [elemsD] at h
      | zero => cases c with
        | succ _ => simp [elemsD] at h
        | zero =>
          simp only [elemsD, Option.some.injEq] at h
          subst h
          exact ⟨none, 0, [], rfl, fun w' _ => by simp [Builtin.firstCells], by simp, by simp only [RepLL]⟩
  | _ => simp [elemsD] at h

/-- An append that makes a new array. -/
theorem run_append_fresh {t e ty : TypeId} {sz by_ : Nat} {z : List Value} (ht : slO P t = some e) (hs : szO P e = some sz) (hb : bytO P e = some by_) (hz : zeroO P e = some z) (hzl : z.length = sz)
    {A B : Option Addr} {n m sCap cap : Nat} {olds news : List Value} (ho : (Builtin.firstCells sz n (.slice A n sCap)).run P w.drew = .ok olds.toArray w.drew) (hn : (Builtin.firstCells sz m (.slice B m cap)).run P w.drew = .ok news.toArray w.drew)
    (hol : olds.length = n * sz) (hnl : news.length = m * sz) (hg : sCap < n + m) (hroom : roomP (n + m) by_) :
    ∃ (c : Array Value) (cp : Nat), (Builtin.append_ #[t, t] ty #[.slice A n sCap, .slice B m cap]).run P w = .ok (.slice (some ⟨w.heap.size, 0, none⟩) (n + m) cp) (w.drew.alloc (.cells c e)) ∧ n + m ≤ cp ∧ cp ≤ maxLen ∧ c.size = cp * sz ∧ c.toList.take ((n + m) * sz) = olds ++ news := by
  unfold szO at hs; unfold bytO at hb; unfold zeroO at hz
  cases hi : P.info? e with
  | none => rw [hi] at hs; cases hs
  | some i =>
    rw [hi] at hs hb hz
    simp only [Option.map_some, Option.some.injEq] at hs hb
    subst hs hb
    simp only [Option.bind_some, Option.map_eq_some_iff] at hz
    obtain ⟨zv, hz1, rfl⟩ := hz
    have h1 : ¬ (n + m ≤ sCap) := by omega
    have h63 : ¬ (9223372036854775807 < ((n : Int) + (m : Int))) := by have := hroom.1; omega
    have h48 : ¬ (281474976710656 < Builtin.nextslicecap (n + m) sCap * i.bytes) := by have := growslice_fits (bytes := i.bytes) hg hroom.2; omega
    have hzs : zv.cells.size = i.size := by rw [← Array.length_toList]; exact hzl
    refine ⟨olds.toArray ++ news.toArray ++ Builtin.zeroCells zv.cells (grownCap w (n + m) sCap e - (n + m)), grownCap w (n + m) sCap e, ?_, grownCap_ge w _ _ _, grownCap_le_maxLen w _ _ _ (by have := hroom.1; simp only [maxLen]; omega), ?_, ?_⟩
    · simp [Builtin.append_, run_underlying (sl_under ht), sizeOf, typeInfo, zeroValue, hi, hz1, Builtin.lenOf, h1, h63, h48, Question.forced, ho, hn, newRow, grownCap]
      congr 2
      apply Array.ext'
      simp
    · have := grownCap_ge w (n + m) sCap e
      simp only [Array.size_append, List.size_toArray, Builtin.zeroCells, Array.size_map, Array.size_range, hzs, hol, hnl, ← Nat.add_mul]
      congr 1
      omega
    · have : (olds ++ news).length = (n + m) * i.size := by rw [List.length_append, hol, hnl, Nat.add_mul]
      simp only [Array.toList_append, List.append_assoc]
      rw [← List.append_assoc, ← this]
      exact List.take_left

theorem RepLL.append {sz : Nat} {es es2 : List (List DV)} {olds news : List Value} (h1 : RepLL C sz es olds) (h2 : RepLL C sz es2 news) (hl : olds.length = es.length * sz) {vs : List Value} (hv : vs.take ((es.length + es2.length) * sz) = olds ++ news) : RepLL C sz (es ++ es2) vs := by
  refine RepLL.of_get fun i e he => ?_
  have hi := (List.getElem?_eq_some_iff.1 he).1
  rw [List.length_append] at hi
  have hlt : (i + 1) * sz ≤ (es.length + es2.length) * sz := Nat.mul_le_mul_right _ hi
  rw [Nat.add_mul, Nat.one_mul] at hlt
  have key : ∀ j, j < sz → vs[i * sz + j]? = (olds ++ news)[i * sz + j]? := by
    intro j hj
    rw [← hv, List.getElem?_take, if_pos (by omega)]
  by_cases hlo : i < es.length
  · rw [List.getElem?_append_left hlo] at he
    obtain ⟨a1, a2⟩ := h1.len i e he
    refine ⟨a1, RepL.of_get fun j d hd => ?_⟩
    have hj : j < sz := by rw [← a1]; exact (List.getElem?_eq_some_iff.1 hd).1
    obtain ⟨v, b1, b2⟩ := a2.get j d hd
    rw [List.getElem?_drop] at b1
    exact ⟨v, by rw [List.getElem?_drop, key j hj, List.getElem?_append_left (List.getElem?_eq_some_iff.1 b1).1]; exact b1, b2⟩
  · rw [List.getElem?_append_right (by omega)] at he
    obtain ⟨a1, a2⟩ := h2.len _ e he
    refine ⟨a1, RepL.of_get fun j d hd => ?_⟩
    have hj : j < sz := by rw [← a1]; exact (List.getElem?_eq_some_iff.1 hd).1
    obtain ⟨v, b1, b2⟩ := a2.get j d hd
    rw [List.getElem?_drop] at b1
    have hle : es.length * sz ≤ i * sz := Nat.mul_le_mul_right _ (by omega)
    have hsub : (i - es.length) * sz = i * sz - es.length * sz := Nat.sub_mul _ _ _
    refine ⟨v, ?_, b2⟩
    rw [List.getElem?_drop, key j hj, List.getElem?_append_right (by omega), hl, ← b1, hsub]
    congr 1
    omega

/-- An append that makes a new array, as a new object. -/
theorem append_al {t e ty : TypeId} {sz by_ : Nat} {z : List Value} (ht : slO P t = some e) (hs : szO P e = some sz) (hb : bytO P e = some by_) (hz : zeroO P e = some z) (hzl : z.length = sz) (h0 : 0 < sz)
    {pl : Nat → Nat → Pl} {S : List SO} {w : World} (hg : Good W0 pl S w) {j g : Nat} (hS : S[j]? = some (.pend g)) {x : DV} {es es2 : List (List DV)} (hx : elemsD sz x = some es2) {vx : Value} (hv : Rep (cxOf w pl S) x vx)
    {A : Option Addr} {sCap : Nat} {olds : List Value} (hcap : sCap = es.length) (ho : ∀ w' : World, w'.heap = w.heap → (Builtin.firstCells sz es.length (.slice A es.length sCap)).run P w' = .ok olds.toArray w') (hol : olds.length = es.length * sz) (hor : RepLL (cxOf w pl S) sz es olds)
    (hroom : roomP (es.length + es2.length) by_) (hne : es = [] ∨ es2 ≠ []) :
    ∃ v w' pl', (Builtin.append_ #[t, t] ty #[.slice A es.length sCap, vx]).run P w = .ok v w' ∧ Good W0 pl' (S.set j (.row g sz (es ++ es2))) w' ∧ CxLe (cxOf w pl S) (cxOf w' pl' (S.set j (.row g sz (es ++ es2)))) ∧
      Rep (cxOf w' pl' (S.set j (.row g sz (es ++ es2)))) (.row j g sz 0 (es.length + es2.length)) v := by
  obtain ⟨B, cap, news, rfl, hn, hnl, hnr⟩ := elems_run (P := P) (w := w) hx hv rfl
  by_cases hm : es2 = []
  · subst hm
    have he : es = [] := hne.resolve_right (by simp)
    subst he
    simp only [List.length_nil] at hcap
    subst hcap
    have hr : (Builtin.append_ #[t, t] ty #[.slice A 0 0, .slice B 0 cap]).run P w = .ok (.slice A 0 0) w := by
      have hn' := hn w rfl
      have hnn : news = [] := List.eq_nil_of_length_eq_zero (by simpa using hnl)
      subst hnn
      unfold szO at hs
      cases hi : P.info? e with
      | none => rw [hi] at hs; cases hs
      | some i =>
        rw [hi] at hs
        simp only [Option.map_some, Option.some.injEq] at hs
        subst hs
        simp only [List.length_nil] at hn'
        cases A with
        | none => simp [Builtin.append_, run_underlying (sl_under ht), sizeOf, typeInfo, hi, Builtin.lenOf, hn']
        | some a => simp [Builtin.append_, run_underlying (sl_under ht), sizeOf, typeInfo, hi, Builtin.lenOf, hn', storeCells]
    obtain ⟨k1, k2⟩ := hg.newAt (so' := .row g sz ([] ++ [])) hS rfl (fun C _ hp => .inl ⟨hp, rfl⟩)
    exact ⟨_, _, _, hr, k1, k2, by
      simp only [Rep]
      left
      refine ⟨by show (if j = j ∧ g = g then Pl.nowhere else _) = _; simp, ?_⟩
      simp⟩
  · have hpos : 0 < es2.length := List.length_pos_iff.2 hm
    obtain ⟨c, cp, h1, h2, h3, h4, h5⟩ := run_append_fresh (P := P) (w := w) (ty := ty) ht hs hb hz hzl (ho w.drew rfl) (hn w.drew rfl) hol hnl (by omega) hroom
    have hgd := hg.drew
    obtain ⟨k1, k2⟩ := Good.new hgd (so' := .row g sz (es ++ es2)) hS rfl (.cells c e) (fun C hC hp hh => .inr ⟨_, c, e, (0, 0), hp, hh, fun k _ h => by simp at h, by
      have hC' : CxLe (cxOf w pl S) C := hC
      exact RepLL.append (RepLL.mono hC' _ _ _ hor) (RepLL.mono hC' _ _ _ hnr) hol h5⟩)
    refine ⟨_, _, _, h1, k1, k2, ?_⟩
    simp only [Rep]
    right
    refine ⟨w.heap.size, 0, cp, c, e, (0, 0), ?_, rfl, .inl (by simp), h2, h3, ?_, by rw [h4]; simp⟩
    · show (if j = j ∧ g = g then Pl.blk w.drew.heap.size else _) = _
      simp
    · show (w.drew.alloc (.cells c e)).heap[w.heap.size]? = _
      exact heap_alloc_new w.drew _
end
end Go.Dv
/-
  What each operation does with deep values: append to a row of one's own; calls; and the table of all.
-/
namespace Go.Dv
set_option linter.unusedVariables false
set_option linter.unusedSimpArgs false
open Go Go.RowKit

section
variable {P : Program} {W0 : World}

theorem run_append_in {t e ty : TypeId} {sz : Nat} {w : World} (ht : slO P t = some e) (hs : szO P e = some sz) {b o' n m cp cap : Nat} {B : Option Addr} {news : List Value} (hn : (Builtin.firstCells sz m (.slice B m cap)).run P w = .ok news.toArray w)
    (hnl : news.length = m * sz) (hroom : n + m ≤ cp) {c : Array Value} {T : TypeId} {fr : Nat × Nat} (hh : w.heap[b]? = some (.cells c T fr)) (hth : Thaw fr c.size) (hfit : o' + n * sz + m * sz ≤ c.size) (h1 : ∀ v ∈ news, v.oneCell' = true) :
    ∃ c', (Builtin.append_ #[t, t] ty #[.slice (some ⟨b, o', none⟩) n cp, .slice B m cap]).run P w = .ok (.slice (some ⟨b, o', none⟩) (n + m) cp) (World.setBlk w b c') ∧ c'.size = c.size ∧
      (∀ k, c'[k]? = if o' + n * sz ≤ k ∧ k < o' + n * sz + news.length then news[k - (o' + n * sz)]? else c[k]?) := by
  obtain ⟨c', h2, h3, h4⟩ := run_storeCells_blk (P := P) b (o' + n * sz) T fr news 0 c w hh hth (by omega) h1
  refine ⟨c', ?_, h3, by simpa using h4⟩
  unfold szO at hs
  cases hi : P.info? e with
  | none => rw [hi] at hs; cases hs
  | some i =>
    rw [hi] at hs
    simp only [Option.map_some, Option.some.injEq] at hs
    subst hs
    simp [Builtin.append_, run_underlying (sl_under ht), sizeOf, typeInfo, hi, Builtin.lenOf, hroom, hn, addOff, h2]

/-- Every value that reads as a cell is one cell, if its reading says so. -/
def oneLL (es : List (List DV)) : Bool := es.all fun e => e.all oneD

theorem oneLL_ok {C : Cx} {sz : Nat} : ∀ {es : List (List DV)} {vs : List Value}, oneLL es = true → RepLL C sz es vs → vs.length = es.length * sz → ∀ v ∈ vs, v.oneCell' = true
  | [], vs, _, _, hl, v, hv => by have : vs = [] := List.eq_nil_of_length_eq_zero (by simpa using hl); subst this; simp at hv
  | e :: es, vs, h, r, hl, v, hv => by
    simp only [oneLL, List.all_cons, Bool.and_eq_true] at h
    simp only [RepLL] at r
    simp only [List.length_cons, Nat.add_mul, Nat.one_mul] at hl
    rw [← List.take_append_drop sz vs, List.mem_append] at hv
    rcases hv with hv | hv
    · have := r.2.1.take e.length
      rw [List.take_length, r.1] at this
      exact allOne h.1 this (by rw [List.length_take, r.1]; omega) v hv
    · exact oneLL_ok h.2 r.2.2 (by rw [List.length_drop]; omega) v hv

theorem append_ap {t e ty : TypeId} {sz by_ : Nat} {z : List Value} (ht : slO P t = some e) (hs : szO P e = some sz) (hb : bytO P e = some by_) (hz : zeroO P e = some z) (hzl : z.length = sz) (h0 : 0 < sz)
    {pl : Nat → Nat → Pl} {S : List SO} {w : World} (hg : Good W0 pl S w) {i g len : Nat} {so : SO} (hS : S[i]? = some so) {x : DV} {es2 : List (List DV)} (hx : elemsD sz x = some es2) (h1 : oneLL es2 = true) {vx vs : Value} (hv : Rep (cxOf w pl S) x vx)
    (hvs : Rep (cxOf w pl S) (.row i g sz 0 len) vs) {p : Prop} {k : Nat → SO × DV} (hk : apRow g sz len es2 i by_ so = some (p, k)) (hp : p) :
    ∃ n v w' pl' g2, (Builtin.append_ #[t, t] ty #[vs, vx]).run P w = .ok v w' ∧ n = Next.value v ∧ Good W0 pl' (S.set i (k g2).1) w' ∧ CxLe (cxOf w pl S) (cxOf w' pl' (S.set i (k g2).1)) ∧ Rep (cxOf w' pl' (S.set i (k g2).1)) (k g2).2 v := by
  have hobj := hg.objs i so hS
  cases so with
  | row g' sz' es =>
    simp only [apRow] at hk
    split at hk
    · rename_i he
      obtain ⟨rfl, rfl⟩ := he
      simp only [Option.some.injEq, Prod.mk.injEq] at hk
      obtain ⟨rfl, rfl⟩ := hk
      obtain ⟨hroom, hlen⟩ := hp
      obtain ⟨B, cap, news, rfl, hn, hnl, hnr⟩ := elems_run (P := P) (w := w) hx hv rfl
      obtain ⟨g2, hg2⟩ := hg.fresh i
      have hun : pl i g2 = .un := hg2 g2 (Nat.le_refl _)
      simp only [Rep] at hvs
      have hlt : (es.take len).length = len := by rw [List.length_take]; omega
      rcases hvs with ⟨hno, _, rfl, A, rfl⟩ | ⟨b, o', cp, c, T, fr, hpl, rfl, ho, hc1, hc2, hhp, hc3⟩
      · -- nowhere yet
        have hno' : pl i g' = .nowhere := hno
        by_cases hm : es2 = []
        · subst hm
          have hnn : news = [] := List.eq_nil_of_length_eq_zero (by simpa using hnl)
          subst hnn
          have hr : (Builtin.append_ #[t, t] ty #[.slice A 0 0, .slice B 0 cap]).run P w = .ok (.slice A 0 0) w := by
            have hn' := hn w rfl
            unfold szO at hs
            cases hi : P.info? e with
            | none => rw [hi] at hs; cases hs
            | some ii =>
              rw [hi] at hs
              simp only [Option.map_some, Option.some.injEq] at hs
              subst hs
              simp only [List.length_nil] at hn'
              cases A with
              | none => simp [Builtin.append_, run_underlying (sl_under ht), sizeOf, typeInfo, hi, Builtin.lenOf, hn']
              | some a => simp [Builtin.append_, run_underlying (sl_under ht), sizeOf, typeInfo, hi, Builtin.lenOf, hn', storeCells]
          obtain ⟨k1, k2⟩ := Good.move (q := .nowhere) (w' := w) (so' := .row g2 sz' (es.take 0 ++ [])) hg hS rfl rfl hun rfl rfl rfl (Nat.le_refl _) (.inl rfl) (fun _ _ _ => rfl) (fun x c T fr hx _ => by rw [hno'] at hx; cases hx) (fun C _ hpC _ => .inl ⟨hpC, by simp⟩)
          refine ⟨_, _, _, _, g2, hr, rfl, k1, k2, ?_⟩
          simp only [Rep]
          left
          refine ⟨by show upd pl i g2 .nowhere i g2 = _; simp [upd], ?_⟩
          simp
        · have hpos : 0 < es2.length := List.length_pos_iff.2 hm
          obtain ⟨c, cp, r1, r2, r3, r4, r5⟩ := run_append_fresh (P := P) (w := w) (ty := ty) ht hs hb hz hzl (A := A) (B := B) (n := 0) (m := es2.length) (sCap := 0) (cap := cap) (olds := [])
            (by cases A <;> simp [Builtin.firstCells, loadCells, loadCellsFrom]) (hn w.drew rfl) (by simp) hnl (by omega) (by simpa using hroom)
          obtain ⟨k1, k2⟩ := Good.move (q := .blk w.heap.size) (w' := w.drew.alloc (.cells c e)) (so' := .row g2 sz' (es.take 0 ++ es2)) hg hS rfl rfl hun rfl rfl rfl (by simp) (.inr ⟨_, rfl, by simp, .inr (Nat.le_refl _)⟩)
            (fun x hx _ => Below.heap_alloc w.drew _ _ hx) (fun x c T fr hx _ => by rw [hno'] at hx; cases hx)
            (fun C hC hpC hhC => .inr ⟨_, c, e, (0, 0), hpC, by rw [hhC]; exact heap_alloc_new w.drew _, fun k _ h => by simp at h, by
              have hv2 : c.toList.take ((([] : List (List DV)).length + es2.length) * sz') = [] ++ news := by simpa using r5
              simpa using RepLL.append (es := []) (by simp only [RepLL]) (RepLL.mono hC _ _ _ hnr) (by simp) hv2⟩)
          refine ⟨_, _, _, _, g2, r1, rfl, k1, k2, ?_⟩
          simp only [Rep]
          right
          refine ⟨w.heap.size, 0, cp, c, e, (0, 0), by show upd pl i g2 _ i g2 = _; simp [upd], rfl, .inl (by simp), r2, r3, heap_alloc_new w.drew _, by rw [r4]; simp⟩
      · have hpl' : pl i g' = .blk b := hpl
        have hhp' : w.heap[b]? = some (.cells c T fr) := hhp
        rcases hobj with ⟨hno, _⟩ | ⟨b2, c2, T2, fr2, hp2, hh2, hth, hr⟩
        · have : pl i g' = .nowhere := hno
          rw [hpl'] at this; cases this
        · have hp2' : pl i g' = .blk b2 := hp2
          rw [hpl'] at hp2'
          cases hp2'
          have hh2' : w.heap[b]? = some (.cells c2 T2 fr2) := hh2
          rw [hhp'] at hh2'
          cases hh2'
          by_cases hfit : len + es2.length ≤ cp
          · -- there is room
            by_cases hcp : cp = 0
            · subst hcp
              have hl0 : len = 0 := by omega
              have he0 : es2.length = 0 := by omega
              have he0' : es2 = [] := List.eq_nil_of_length_eq_zero he0
              subst he0'
              subst hl0
              have hnn : news = [] := List.eq_nil_of_length_eq_zero (by simpa using hnl)
              subst hnn
              have hn' := hn w rfl
              have hr : (Builtin.append_ #[t, t] ty #[.slice (some ⟨b, o', none⟩) 0 0, .slice B 0 cap]).run P w = .ok (.slice (some ⟨b, o', none⟩) 0 0) w := by
                unfold szO at hs
                cases hi : P.info? e with
                | none => rw [hi] at hs; cases hs
                | some ii =>
                  rw [hi] at hs
                  simp only [Option.map_some, Option.some.injEq] at hs
                  subst hs
                  simp only [List.length_nil] at hn'
                  simp [Builtin.append_, run_underlying (sl_under ht), sizeOf, typeInfo, hi, Builtin.lenOf, hn', storeCells]
              obtain ⟨k1, k2⟩ := Good.move (q := .blk b) (w' := w) (so' := .row g2 sz' (es.take 0 ++ [])) hg hS rfl rfl hun rfl rfl rfl (Nat.le_refl _) (.inr ⟨b, rfl, (Array.getElem?_eq_some_iff.1 hhp').1, .inl hpl'⟩) (fun _ _ _ => rfl) (fun x c1 T1 f1 _ hx => ⟨c1, f1, hx, rfl⟩)
                (fun C _ hpC hhC => .inr ⟨b, c, T, fr, hpC, by rw [hhC]; exact hhp', hth, by simp only [List.take_zero, List.append_nil, RepLL]⟩)
              refine ⟨_, _, _, _, g2, hr, rfl, k1, k2, ?_⟩
              simp only [Rep]
              right
              exact ⟨b, o', 0, c, T, fr, by show upd pl i g2 _ i g2 = _; simp [upd], rfl, .inr rfl, by simp, by simp [maxLen], hhp', by omega⟩
            · have ho' : o' = 0 := by rcases ho with h | h; simpa using h; exact absurd h hcp
              subst ho'
              have hcz : (0 + cp) * sz' = cp * sz' := by rw [Nat.zero_add]
              rw [hcz] at hc3
              have hmul : (len + es2.length) * sz' ≤ cp * sz' := Nat.mul_le_mul_right _ hfit
              rw [Nat.add_mul] at hmul
              obtain ⟨c', r1, r2, r3⟩ := run_append_in (P := P) (w := w) (ty := ty) ht hs (b := b) (o' := 0) (n := len) (m := es2.length) (cp := cp) (hn w rfl) hnl hfit hhp' hth (by omega) (oneLL_ok h1 hnr hnl)
              have hset := setBlk_get (c := c') hhp'
              obtain ⟨k1, k2⟩ := Good.move (q := .blk b) (w' := World.setBlk w b c') (so' := .row g2 sz' (es.take len ++ es2)) hg hS rfl rfl hun rfl rfl rfl (by simp [World.setBlk]) (.inr ⟨b, rfl, by simp only [World.setBlk, Array.size_modify]; exact (Array.getElem?_eq_some_iff.1 hhp').1, .inl hpl'⟩)
                (fun x _ hne => by rw [hset, if_neg]; rintro rfl; exact hne hpl')
                (fun x c1 T1 f1 hx hx1 => by
                  rw [hpl'] at hx
                  cases hx
                  rw [hhp'] at hx1
                  cases hx1
                  exact ⟨c', fr, by rw [hset, if_pos rfl], r2⟩)
                (fun C hC hpC hhC => .inr ⟨b, c', T, fr, hpC, by rw [hhC, hset, if_pos rfl], by rw [r2]; exact hth, by
                  have hr' := (RepLL.mono hC _ _ _ hr).take len
                  have hnr' := RepLL.mono hC _ _ _ hnr
                  refine RepLL.append (olds := c.toList.take (len * sz')) (news := news) ?_ hnr' (by rw [hlt, List.length_take, Array.length_toList]; omega) ?_
                  · refine RepLL.of_get fun q eq hq => ?_
                    obtain ⟨a1, a2⟩ := hr'.len q eq hq
                    refine ⟨a1, RepL.of_get fun j d hd => ?_⟩
                    obtain ⟨v, b1, b2⟩ := a2.get j d hd
                    refine ⟨v, ?_, b2⟩
                    have hq' := (List.getElem?_eq_some_iff.1 hq).1
                    rw [hlt] at hq'
                    have hj := (List.getElem?_eq_some_iff.1 hd).1
                    have : (q + 1) * sz' ≤ len * sz' := Nat.mul_le_mul_right _ hq'
                    rw [Nat.add_mul] at this
                    rw [List.getElem?_drop, List.getElem?_take, if_pos (by omega), ← List.getElem?_drop]
                    exact b1
                  · rw [hlt]
                    apply List.ext_getElem?
                    intro q
                    rw [List.getElem?_take, Array.getElem?_toList, r3, Nat.add_mul]
                    have hln : (c.toList.take (len * sz')).length = len * sz' := by rw [List.length_take, Array.length_toList]; omega
                    by_cases hq : q < len * sz'
                    · rw [if_pos (by omega), if_neg (by omega), List.getElem?_append_left (by omega), List.getElem?_take, if_pos hq, Array.getElem?_toList]
                    · rw [List.getElem?_append_right (by omega), hln]
                      by_cases hq2 : q < len * sz' + es2.length * sz'
                      · rw [if_pos hq2, if_pos (by omega), Nat.zero_add]
                      · rw [if_neg hq2, List.getElem?_eq_none (by omega)]⟩)
              refine ⟨_, _, _, _, g2, r1, rfl, k1, k2, ?_⟩
              simp only [Rep]
              right
              exact ⟨b, 0, cp, c', T, fr, by show upd pl i g2 _ i g2 = _; simp [upd], rfl, .inl (by simp), hfit, hc2, by show (World.setBlk w b c').heap[b]? = _; rw [hset, if_pos rfl], by rw [hcz, r2]; exact hc3⟩
          · -- a new array
            have hold : (Builtin.firstCells sz' len (.slice (some ⟨b, o', none⟩) len cp)).run P w.drew = .ok (c.toList.take (len * sz')).toArray w.drew ∧ (c.toList.take (len * sz')).length = len * sz' := by
              by_cases hl0 : len = 0
              · subst hl0
                simp [Builtin.firstCells, loadCells, loadCellsFrom]
              · have ho' : o' = 0 := by rcases ho with h | h; simpa using h; omega
                subst ho'
                have hle : len * sz' ≤ c.size := by
                  have : len * sz' ≤ (0 + cp) * sz' := Nat.mul_le_mul_right _ (by omega)
                  omega
                have hln : (c.toList.take (len * sz')).length = len * sz' := by rw [List.length_take, Array.length_toList]; omega
                exact ⟨run_firstCells_some (P := P) w.drew sz' len ⟨b, 0, none⟩ len cp _ hln (fun j v hj => by
                  rw [addOff, cell_of_row w.drew b (0 + j) c T fr hhp']
                  rw [List.getElem?_take] at hj
                  split at hj
                  · rw [Nat.zero_add, ← Array.getElem?_toList]; exact hj
                  · cases hj), hln⟩
            obtain ⟨c', cp', r1, r2, r3, r4, r5⟩ := run_append_fresh (P := P) (w := w) (ty := ty) ht hs hb hz hzl (A := some ⟨b, o', none⟩) (B := B) (n := len) (m := es2.length) (sCap := cp) (cap := cap) hold.1 (hn w.drew rfl) hold.2 hnl (by omega) hroom
            obtain ⟨k1, k2⟩ := Good.move (q := .blk w.heap.size) (w' := w.drew.alloc (.cells c' e)) (so' := .row g2 sz' (es.take len ++ es2)) hg hS rfl rfl hun rfl rfl rfl (by simp) (.inr ⟨_, rfl, by simp, .inr (Nat.le_refl _)⟩)
              (fun x hx _ => Below.heap_alloc w.drew _ _ hx) (fun x c1 T1 f1 hx hx1 => ⟨c1, f1, by rw [Below.heap_alloc w.drew _ _ (by show x < w.heap.size; exact (Array.getElem?_eq_some_iff.1 hx1).1)]; exact hx1, rfl⟩)
              (fun C hC hpC hhC => .inr ⟨_, c', e, (0, 0), hpC, by rw [hhC]; exact heap_alloc_new w.drew _, fun k _ h => by simp at h, by
                have hr' := (RepLL.mono hC _ _ _ hr).take len
                refine RepLL.append (olds := c.toList.take (len * sz')) (news := news) ?_ (RepLL.mono hC _ _ _ hnr) (by rw [hlt]; exact hold.2) (by rw [hlt]; exact r5)
                refine RepLL.of_get fun q eq hq => ?_
                obtain ⟨a1, a2⟩ := hr'.len q eq hq
                refine ⟨a1, RepL.of_get fun j d hd => ?_⟩
                obtain ⟨v, b1, b2⟩ := a2.get j d hd
                refine ⟨v, ?_, b2⟩
                have hq' := (List.getElem?_eq_some_iff.1 hq).1
                rw [hlt] at hq'
                have hj := (List.getElem?_eq_some_iff.1 hd).1
                have : (q + 1) * sz' ≤ len * sz' := Nat.mul_le_mul_right _ hq'
                rw [Nat.add_mul] at this
                rw [List.getElem?_drop, List.getElem?_take, if_pos (by omega), ← List.getElem?_drop]
                exact b1⟩)
            refine ⟨_, _, _, _, g2, r1, rfl, k1, k2, ?_⟩
            simp only [Rep]
            right
            exact ⟨w.heap.size, 0, cp', c', e, (0, 0), by show upd pl i g2 _ i g2 = _; simp [upd], rfl, .inl (by simp), r2, r3, heap_alloc_new w.drew _, by rw [r4]; simp⟩
    · cases hk
  | _ => simp [apRow] at hk
end
end Go.Dv
/-
  What each operation does with deep values: the table, and its soundness.
-/
namespace Go.Dv
set_option linter.unusedVariables false
set_option linter.unusedSimpArgs false
open Go Go.RowKit

def undO (P : Program) (t : TypeId) : Bool := (P.underlying t).isSome

def fPick (c a b : DV) : OpR := match c with
  | .raw (.bool k) => .need True (if k then a else b)
  | _ => .bad

def fUn (op : UnOp) (x : DV) : OpR := match op, x with
  | .neg, .raw (.int k n) => intBin .sub k 0 n
  | .not, .raw (.bool b) => tt (.bool (!b))
  | _, _ => .bad

def fConvert (P : Program) (s t : TypeId) (x : DV) : OpR := match undO P s, x with
  | true, .raw (.int _ n) => match intO P t with
    | some k => tt (.int k (k.wrap n))
    | none => if isStr P t then tt (.string (Utf8.encode n)) else .bad
  | true, .raw (.string b) => if isStr P t then tt (.string b) else .bad
  | _, _ => .bad

def fMakeI (P : Program) (t : TypeId) (x : DV) : OpR := if undO P t && !isIface P t then .need True (.ifc t x) else .bad

def fExtract (i : Nat) (x : DV) : OpR := match x with
  | .tup ds => match ds[i]? with | some d => .need True d | none => .bad
  | _ => .bad

def fLen (P : Program) (ts : List TypeId) (args : List DV) : OpR := match ts, args with
  | [t], [x] => match x with
    | .raw (.string s) => if isStr P t then tt (.int .i64 s.size) else .bad
    | .raw (.slice none 0 0) => if (slO P t).isSome then tt (.int .i64 0) else .bad
    | .lst _ _ es => if (slO P t).isSome then tt (.int .i64 es.length) else .bad
    | .row _ _ _ _ n => if (slO P t).isSome then tt (.int .i64 n) else .bad
    | _ => .bad
  | _, _ => .bad

def fMax : List DV → OpR
  | [.raw (.int k x), .raw (.int _ y)] => tt (.int k (max x y))
  | _ => .bad
def fMin : List DV → OpR
  | [.raw (.int k x), .raw (.int _ y)] => tt (.int k (min x y))
  | _ => .bad

def fEnter (P : Program) (f : DV) (args : List DV) : OpR := match f with
  | .fn (.func k) first cap => if hasBody P k then .call k (first ++ args ++ cap) else .bad
  | _ => .bad

def fRange (P : Program) (t : TypeId) (x : DV) : OpR := match x with
  | .raw (.string s) => if isStr P t then .al True (fun g => .other g (.stringIter s 0)) (fun j g => .loc j g 0) else .bad
  | _ => .bad

def fMakeSl (P : Program) (t : TypeId) (l c : DV) : OpR := match l, c with
  | .raw (.int _ n), .raw (.int _ m) => match slO P t with
    | some e => match szO P e, bytO P e, zeroO P e with
      | some sz, some by_, some z => if 0 < sz ∧ z.length = sz then
          .al (0 ≤ n ∧ m = n ∧ roomP n.toNat by_) (fun g => .row g sz (List.replicate n.toNat (z.map DV.raw))) (fun j g => .row j g sz 0 n.toNat) else .bad
      | _, _, _ => .bad
    | none => .bad
  | _, _ => .bad

/-- Next letter of a text that is gone through. -/
def nxt (g : Nat) : SO → Option (Prop × SO × DV)
  | .other g' (.stringIter s pos) => if g' = g then
      if pos < s.size then some (True, .other g' (.stringIter s (pos + (Utf8.decode s pos).2)), .tup [.raw (.bool true), .raw (.int .i64 pos), .raw (.int .i32 (Utf8.decode s pos).1)])
      else some (True, .other g' (.stringIter s pos), .tup [.raw (.bool false)])
    else none
  | _ => none

def fNext (isString : Bool) (x : DV) : OpR := match isString, x with
  | true, .loc j g 0 => .wr j (nxt g)
  | _, _ => .bad

def fPanic (x : DV) : OpR := match x with
  | .ifc t d => .pan (.ifc t d)
  | _ => .bad

/-- Append; what is appended in place must be one cell each. -/
def fAppend1 (P : Program) (ts : List TypeId) (args : List DV) : OpR := match args with
  | [.row i g s o len, x] => match elemsD s x with
    | some es2 => if oneLL es2 then fAppend P ts [.row i g s o len, x] else .bad
    | none => .bad
  | _ => fAppend P ts args

/-- What is cleared. -/
def clrS (g sz o len : Nat) (z : List DV) : SO → Option (Prop × SO × DV)
  | .row g' sz' es => if g' = g ∧ sz' = sz then some (o + len ≤ es.length, .row g sz (es.take o ++ List.replicate len z ++ es.drop (o + len)), .tup []) else none
  | _ => none

def fClear (P : Program) (ts : List TypeId) (args : List DV) : OpR := match ts, args with
  | [t], [.row i g sz o len] => match slO P t with
    | some e => match szO P e, zeroO P e with
      | some s, some z => if s = sz ∧ z.length = sz ∧ 0 < sz ∧ z.all Value.oneCell' = true then .wr i (clrS g sz o len (z.map DV.raw)) else .bad
      | _, _ => .bad
    | none => .bad
  | _, _ => .bad

def fCall (P : Program) (ev : Operand → DV) (c : Call) : OpR := match c.callee with
  | .value f => fEnter P (ev f) (c.args.toList.map ev)
  | .builtin .len => fLen P c.argTypes.toList (c.args.toList.map ev)
  | .builtin .max => fMax (c.args.toList.map ev)
  | .builtin .min => fMin (c.args.toList.map ev)
  | .builtin .append => fAppend1 P c.argTypes.toList (c.args.toList.map ev)
  | .builtin .clear => fClear P c.argTypes.toList (c.args.toList.map ev)
  | _ => .bad

/-- Is what this operation makes kept as a row of its own? -/
def isOwn (own : List Nat) (o : Oper) : Bool := match o.dst with | some t => own.contains t | none => false

def opR (P : Program) (own : List Nat) (ev : Operand → DV) (o : Oper) : OpR :=
  match o.op with
  | .move x => .need True (ev x)
  | .assign x => .need True (ev x)
  | .pick c a b => fPick (ev c) (ev a) (ev b)
  | .alloc t => fAlloc P t
  | .box _ x => fBox (ev x)
  | .build t ps => fBuild P t (ps.toList.map fun p => (p.1, ev p.2))
  | .buildSlice t n ps => fBuildSlice P (isOwn own o) t n (ps.toList.map fun p => (p.1, ev p.2))
  | .load t x => fLoad P t (ev x)
  | .store t x y => fStore P t (ev x) (ev y)
  | .nilCheck x => fNil (ev x)
  | .binOp op t x y _ => binD P op (isCo x || isCo y) t (ev x) (ev y)
  | .unOp op _ x => fUn op (ev x)
  | .convert s t x => fConvert P s t (ev x)
  | .makeInterface t x => fMakeI P t (ev x)
  | .makeFunc f a b => .need True (.fn f (a.toList.map ev) (b.toList.map ev))
  | .slice t x lo hi mx => fSlice P t (ev x) (lo.map ev) (hi.map ev) (mx.map ev)
  | .fieldAddr t x f => fFieldAddr P t f (ev x)
  | .field t x f => fField P t f (ev x)
  | .indexAddr t x i => fIndexAddr P t (ev x) (ev i)
  | .index t x i => fIndex P t (ev x) (ev i)
  | .range t x => fRange P t (ev x)
  | .makeSlice t l c => fMakeSl P t (ev l) (ev c)
  | .next x s => fNext s (ev x)
  | .extract x i => fExtract i (ev x)
  | .call c => fCall P ev c
  | .panic x => fPanic (ev x)
  | _ => .bad

theorem opR_local (P : Program) (own : List Nat) (ev ev' : Operand → DV) (o : Oper) (h : ∀ x ∈ o.op.operands, ev x = ev' x) : opR P own ev o = opR P own ev' o := by
  have hmap : ∀ (ps : Array (Nat × Operand)), (∀ x ∈ (ps.toList.map (·.2)).toArray, ev x = ev' x) → (ps.toList.map fun p => (p.1, ev p.2)) = ps.toList.map fun p => (p.1, ev' p.2) := by
    intro ps h
    refine List.map_congr_left fun p hp => ?_
    rw [h p.2 (by simp; exact ⟨p.1, by simpa using hp⟩)]
  have hop : ∀ (l : Option Operand), (∀ x ∈ l.toArray, ev x = ev' x) → l.map ev = l.map ev' := by
    intro l h
    cases l with
    | none => rfl
    | some x => simp [h x (by simp)]
  have harr : ∀ (l : Array Operand), (∀ x ∈ l, ev x = ev' x) → l.toList.map ev = l.toList.map ev' := fun l h => List.map_congr_left fun x hx => h x (by simpa using hx)
  unfold opR
  cases hop' : o.op <;> simp only [hop', Op.operands, List.mem_toArray, List.mem_cons, Array.mem_append, forall_eq_or_imp] at h ⊢
  case build t ps => rw [hmap ps (by simpa using h)]
  case buildSlice t n ps => rw [hmap ps (by simpa using h)]
  case slice t x lo hi mx =>
    rw [h x (by simp), hop lo (fun y hy => h y (by simp [hy])), hop hi (fun y hy => h y (by simp [hy])), hop mx (fun y hy => h y (by simp [hy]))]
  case makeFunc f a b => rw [harr a (fun y hy => h y (by simp [hy])), harr b (fun y hy => h y (by simp [hy]))]
  case call c =>
    have hargs : c.args.toList.map ev = c.args.toList.map ev' := harr c.args (fun y hy => h y (by simp [Call.operands, hy]))
    unfold fCall
    cases hc : c.callee with
    | value f => simp only [hargs]; rw [h f (by simp [Call.operands, hc])]
    | invoke r m => rfl
    | builtin b => cases b <;> simp only [hargs]
  all_goals simp_all

/-- 0: it reads no store; 1: it reads it; 2: it may write. -/
def scl (o : Oper) : Nat := match o.op with
  | .move _ | .assign _ | .pick .. | .build .. | .nilCheck _ | .binOp .. | .unOp .. | .convert .. | .makeInterface .. | .makeFunc .. | .slice .. | .fieldAddr .. | .field .. | .indexAddr .. | .index .. | .extract .. => 0
  | .load .. => 1
  | .call c => match c.callee with
    | .builtin .len | .builtin .max | .builtin .min => 0
    | _ => 2
  | _ => 2

def NB (r : OpR) : Prop := (∃ p d, r = .need p d) ∨ r = .bad

theorem NB_need (p : Prop) (d : DV) : NB (.need p d) := .inl ⟨p, d, rfl⟩
theorem NB_bad : NB .bad := .inr rfl
theorem NB_tt (v : Value) : NB (tt v) := .inl ⟨_, _, rfl⟩

theorem nb_intBin {op : BinOp} {k : IntKind} {a b : Int} : NB (intBin op k a b) := by unfold intBin; (repeat' split); all_goals first | exact NB_need _ _ | exact NB_bad | exact NB_tt _
theorem nb_strBin {op : BinOp} {a b : ByteArray} : NB (strBin op a b) := by unfold strBin; (repeat' split); all_goals first | exact NB_need _ _ | exact NB_bad | exact NB_tt _
theorem nb_binD {P : Program} {op : BinOp} {co : Bool} {t : TypeId} {x y : DV} : NB (binD P op co t x y) := by unfold binD; (repeat' split); all_goals first | exact NB_need _ _ | exact NB_bad | exact NB_tt _ | exact nb_intBin | exact nb_strBin
theorem nb_pick {a b c : DV} : NB (fPick a b c) := by unfold fPick; (repeat' split); all_goals first | exact NB_need _ _ | exact NB_bad | exact NB_tt _
theorem nb_build {P : Program} {t : TypeId} {ps : List (Nat × DV)} : NB (fBuild P t ps) := by unfold fBuild; (repeat' split); all_goals first | exact NB_need _ _ | exact NB_bad | exact NB_tt _
theorem nb_nil {d : DV} : NB (fNil d) := by unfold fNil; (repeat' split); all_goals first | exact NB_need _ _ | exact NB_bad | exact NB_tt _
theorem nb_un {op : UnOp} {d : DV} : NB (fUn op d) := by unfold fUn; (repeat' split); all_goals first | exact NB_need _ _ | exact NB_bad | exact NB_tt _ | exact nb_intBin
theorem nb_convert {P : Program} {s t : TypeId} {d : DV} : NB (fConvert P s t d) := by unfold fConvert; (repeat' split); all_goals first | exact NB_need _ _ | exact NB_bad | exact NB_tt _
theorem nb_makeI {P : Program} {t : TypeId} {d : DV} : NB (fMakeI P t d) := by unfold fMakeI; (repeat' split); all_goals first | exact NB_need _ _ | exact NB_bad | exact NB_tt _
theorem nb_slice {P : Program} {t : TypeId} {d : DV} {a b c : Option DV} : NB (fSlice P t d a b c) := by unfold fSlice; (repeat' split); all_goals first | exact NB_need _ _ | exact NB_bad | exact NB_tt _
theorem nb_fieldAddr {P : Program} {t f : Nat} {d : DV} : NB (fFieldAddr P t f d) := by unfold fFieldAddr; (repeat' split); all_goals first | exact NB_need _ _ | exact NB_bad | exact NB_tt _
theorem nb_field {P : Program} {t f : Nat} {d : DV} : NB (fField P t f d) := by unfold fField; (repeat' split); all_goals first | exact NB_need _ _ | exact NB_bad | exact NB_tt _
theorem nb_indexAddr {P : Program} {t : Nat} {d i : DV} : NB (fIndexAddr P t d i) := by unfold fIndexAddr; (repeat' split); all_goals first | exact NB_need _ _ | exact NB_bad | exact NB_tt _
theorem nb_index {P : Program} {t : Nat} {d i : DV} : NB (fIndex P t d i) := by unfold fIndex; (repeat' split); all_goals first | exact NB_need _ _ | exact NB_bad | exact NB_tt _
theorem nb_extract {i : Nat} {d : DV} : NB (fExtract i d) := by unfold fExtract; (repeat' split); all_goals first | exact NB_need _ _ | exact NB_bad | exact NB_tt _
theorem nb_len {P : Program} {ts : List TypeId} {a : List DV} : NB (fLen P ts a) := by unfold fLen; (repeat' split); all_goals first | exact NB_need _ _ | exact NB_bad | exact NB_tt _
theorem nb_max {a : List DV} : NB (fMax a) := by unfold fMax; (repeat' split); all_goals first | exact NB_need _ _ | exact NB_bad | exact NB_tt _
theorem nb_min {a : List DV} : NB (fMin a) := by unfold fMin; (repeat' split); all_goals first | exact NB_need _ _ | exact NB_bad | exact NB_tt _

theorem scl_ok (P : Program) (own : List Nat) : (∀ ev o, scl o = 0 → (∃ p d, opR P own ev o = .need p d) ∨ opR P own ev o = .bad) ∧
    (∀ ev o, scl o = 1 → (∃ p d, opR P own ev o = .need p d) ∨ (∃ j h, opR P own ev o = .rd j h) ∨ opR P own ev o = .bad) := by
  constructor
  · intro ev o h
    show NB (opR P own ev o)
    unfold scl at h
    unfold opR
    cases ho : o.op <;> simp only [ho] at h ⊢
    case call c =>
      unfold fCall
      cases hc : c.callee with
      | value f => simp [hc] at h
      | invoke r m => simp [hc] at h
      | builtin b => cases b <;> simp [hc] at h ⊢ <;> first | exact nb_len | exact nb_max | exact nb_min
    all_goals first | exact NB_need _ _ | exact nb_pick | exact nb_build | exact nb_nil | exact nb_binD | exact nb_un | exact nb_convert | exact nb_makeI | exact nb_slice | exact nb_fieldAddr | exact nb_field | exact nb_indexAddr | exact nb_index | exact nb_extract | exact absurd h (by decide)
  · intro ev o h
    unfold scl at h
    unfold opR
    cases ho : o.op <;> simp only [ho] at h ⊢
    case load t x =>
      unfold fLoad
      repeat' split
      all_goals first | exact .inl ⟨_, _, rfl⟩ | exact .inr (.inl ⟨_, _, rfl⟩) | exact .inr (.inr rfl)
    case call c => split at h <;> exact absurd h (by decide)
    all_goals exact absurd h (by decide)
end Go.Dv
