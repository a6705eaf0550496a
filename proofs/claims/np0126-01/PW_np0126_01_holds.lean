import PyProof.Rows.All
import Wide.All
import OpenK.AllK
import Wide.FinOn
import PySem.Challenge.RW_np0126_01
set_option Elab.async false
set_option maxRecDepth 100000
section
namespace Mine
/-- starts with two colons -/
def dc : List Nat → Bool
  | a :: b :: _ => a == 58 && b == 58
  | _ => false
/-- the parts of what is left, in a run of colons or not, behind the part acc so far -/
def seg : Bool → List Nat → List Nat → List (List Nat)
  | _, acc, [] => [acc]
  | true, acc, c :: r => if c = 58 then seg true acc r else seg false (acc ++ [c]) r
  | false, acc, c :: r => if dc (c :: r) = true then acc :: seg true [] r else seg false (acc ++ [c]) r
def dropC : List Nat → List Nat
  | [] => []
  | c :: r => if c = 58 then dropC r else c :: r
def partsL (l : List Nat) : List (List Nat) := seg (dc l) [] l
def lastP (l : List Nat) : List Nat := (partsL l).getLastD []
def stripC (l : List Nat) : Nat → Nat
  | 0 => 0
  | n + 1 => if l[n]? = some 58 then stripC l n else n + 1
def qualL (l : List Nat) : List Nat := l.take (stripC l (l.length - (lastP l).length))
def hasDC : List Nat → Bool
  | [] => false
  | c :: r => dc (c :: r) || hasDC r
theorem seg_ne (b : Bool) (acc l : List Nat) : seg b acc l ≠ [] := by
  induction l generalizing b acc with
  | nil => cases b <;> simp [seg]
  | cons c r ih =>
    cases b <;> simp only [seg] <;> split <;> first | exact ih _ _ | simp
theorem dc_cons {c : Nat} {r : List Nat} : dc (c :: r) = true ↔ c = 58 ∧ r[0]? = some 58 := by
  cases r <;> simp [dc]
theorem dc_drop {l : List Nat} {i : Nat} : dc (l.drop i) = true ↔ l[i]? = some 58 ∧ l[i + 1]? = some 58 := by
  rcases h : l.drop i with _ | ⟨c, r⟩
  · have : l.length ≤ i := List.drop_eq_nil_iff.mp h
    simp [dc, this]
  · have h0 : l[i]? = some c := by
      have := congrArg (·[0]?) h
      simpa using this
    have h1 : l[i + 1]? = r[0]? := by
      have := congrArg (·[1]?) h
      simpa using this
    rw [dc_cons, h0, h1]
    simp
theorem seg_true_drop (acc l : List Nat) : seg true acc l = seg false acc (dropC l) := by
  induction l generalizing acc with
  | nil => rfl
  | cons c r ih =>
    simp only [seg, dropC]
    split
    · exact ih acc
    · rename_i h
      have : ¬ dc (c :: r) = true := fun hd => h (dc_cons.mp hd).1
      simp only [seg, if_neg this]
/-- up to the first two colons -/
theorem seg_first {l acc : List Nat} {j : Nat} (hj : dc (l.drop j) = true) (hn : ∀ i, i < j → dc (l.drop i) = false) :
    seg false acc l = (acc ++ l.take j) :: seg true [] (l.drop (j + 2)) := by
  induction j generalizing l acc with
  | zero =>
    rcases l with _ | ⟨a, _ | ⟨b, r⟩⟩
    · simp [dc] at hj
    · simp [dc] at hj
    · simp only [List.drop_zero] at hj
      have hb := hj
      simp [dc] at hb
      obtain ⟨rfl, rfl⟩ := hb
      simp [seg, dc]
  | succ j ih =>
    rcases l with _ | ⟨c, r⟩
    · simp [dc] at hj
    · have h0 := hn 0 (Nat.succ_pos _)
      simp only [List.drop_zero] at h0
      have := ih (l := r) (acc := acc ++ [c]) (by simpa using hj) (fun i hi => by simpa using hn (i + 1) (by omega))
      simp only [seg, h0]
      simp [this, List.append_assoc]
theorem seg_none {l acc : List Nat} (hn : ∀ i, dc (l.drop i) = false) : seg false acc l = [acc ++ l] := by
  induction l generalizing acc with
  | nil => simp [seg]
  | cons c r ih =>
    have h0 := hn 0
    simp only [List.drop_zero] at h0
    have := ih (acc := acc ++ [c]) (fun i => by simpa using hn (i + 1))
    simp [seg, h0, this]
/-- a run that begins behind no colon parts what stands ahead -/
theorem seg_split {p q : List Nat} (hq : dc q = true) (hp : p.getLast? ≠ some 58) (b : Bool) (acc : List Nat) (hb : b = false ∨ p ≠ []) :
    seg b acc (p ++ q) = seg b acc p ++ seg true [] q.tail := by
  induction p generalizing b acc with
  | nil =>
    rcases hb with rfl | h
    · rcases q with _ | ⟨c, r⟩
      · simp [dc] at hq
      · simp [seg, hq]
    · exact absurd rfl h
  | cons c r ih =>
    have hr : r.getLast? ≠ some 58 := by
      cases r with
      | nil => simp
      | cons d t => simpa using hp
    cases b with
    | true =>
      by_cases hc : c = 58
      · have hne : r ≠ [] := by rintro rfl; simp [hc] at hp
        simp only [List.cons_append, seg, if_pos hc]
        exact ih hr true acc (.inr hne)
      · simp only [List.cons_append, seg, if_neg hc]
        exact ih hr false _ (.inl rfl)
    | false =>
      have e : dc (c :: (r ++ q)) = dc (c :: r) := by
        cases r with
        | nil =>
          have : c ≠ 58 := by simpa using hp
          rcases q with _ | ⟨d, t⟩ <;> simp [dc, this]
        | cons d t => simp [dc]
      by_cases hd : dc (c :: r) = true
      · have hne : r ≠ [] := by rintro rfl; simp [dc] at hd
        simp only [List.cons_append, seg, e, if_pos hd]
        rw [ih hr true [] (.inr hne)]
      · simp only [List.cons_append, seg, e, if_neg hd]
        exact ih hr false _ (.inl rfl)
theorem seg_run {l : List Nat} (b : Nat) {f : Nat} (hf : f ≤ b) (h : ∀ i, f ≤ i → i < b → l[i]? = some 58) (acc : List Nat) : seg true acc (l.drop f) = seg true acc (l.drop b) := by
  induction b with
  | zero => have : f = 0 := by omega
            rw [this]
  | succ n ih =>
    by_cases e : f = n + 1
    · rw [e]
    · rw [ih (by omega) (fun i h1 h2 => h i h1 (by omega))]
      have hn := h n (by omega) (by omega)
      have hlt : n < l.length := by
        rcases Nat.lt_or_ge n l.length with h | h
        · exact h
        · simp [List.getElem?_eq_none h] at hn
      have e2 : l[n] = 58 := by simpa [List.getElem?_eq_getElem hlt] using hn
      rw [List.drop_eq_getElem_cons hlt]
      simp [seg, e2]
theorem seg_parts_ne {l acc : List Nat} {b : Bool} (h : acc ≠ [] ∨ b = true ∨ dc l = false) : ∀ e ∈ (seg b acc l).dropLast, e ≠ [] := by
  induction l generalizing b acc with
  | nil => cases b <;> simp [seg]
  | cons c r ih =>
    cases b with
    | true =>
      simp only [seg]
      split
      · exact ih (by rcases h with h | h | h <;> simp_all)
      · exact ih (.inl (by simp))
    | false =>
      simp only [seg]
      split
      · rename_i hd
        intro e he
        rw [List.dropLast_cons_of_ne_nil (seg_ne _ _ _)] at he
        rcases List.mem_cons.mp he with rfl | he
        · rcases h with h | h | h
          · exact h
          · cases h
          · rw [h] at hd; cases hd
        · exact ih (.inr (.inl rfl)) e he
      · exact ih (.inl (by simp))
theorem parts_ne (l : List Nat) : ∀ e ∈ (partsL l).dropLast, e ≠ [] := seg_parts_ne (by cases h : dc l <;> simp)
theorem seg_sum (b : Bool) (acc l : List Nat) : ((seg b acc l).map List.length).sum ≤ acc.length + l.length ∧ (seg b acc l).length ≤ l.length + 1 := by
  induction l generalizing b acc with
  | nil => cases b <;> simp [seg]
  | cons c r ih =>
    cases b <;> simp only [seg] <;> split
    · have := ih true []
      simp only [List.map_cons, List.sum_cons, List.length_cons, List.length_nil] at this ⊢
      omega
    · have := ih false (acc ++ [c])
      simp only [List.length_append, List.length_cons, List.length_nil] at this ⊢
      omega
    · have := ih true acc
      simp only [List.length_cons] at this ⊢
      omega
    · have := ih false (acc ++ [c])
      simp only [List.length_append, List.length_cons, List.length_nil] at this ⊢
      omega
theorem parts_sum (l : List Nat) : ((partsL l).map List.length).sum ≤ l.length ∧ (partsL l).length ≤ l.length + 1 := by
  have := seg_sum (dc l) [] l
  simpa [partsL] using this
/-- the place where a run of colons that ends ahead of b begins -/
theorem strip_is {l : List Nat} (b : Nat) {f : Nat} (hf : f ≤ b) (h : ∀ i, f ≤ i → i < b → l[i]? = some 58) (h0 : f = 0 ∨ l[f - 1]? ≠ some 58) : stripC l b = f := by
  induction b with
  | zero => have : f = 0 := by omega
            rw [this]; rfl
  | succ n ih =>
    by_cases e : f = n + 1
    · subst e
      have : l[n]? ≠ some 58 := by simpa using h0
      simp [stripC, this]
    · have hn := h n (by omega) (by omega)
      simp only [stripC, hn, if_true]
      exact ih (by omega) fun i h1 h2 => h i h1 (by omega)
theorem strip_le (l : List Nat) : ∀ b, stripC l b ≤ b
  | 0 => Nat.le_refl _
  | n + 1 => by
    unfold stripC
    split
    · exact Nat.le_succ_of_le (strip_le l n)
    · exact Nat.le_refl _
end Mine
end
section
namespace Mine
def mrk (l : List Nat) (k : Nat) : Bool := l[k]? == some 58 && ((decide (0 < k) && l[k - 1]? == some 58) || l[k + 1]? == some 58)
theorem mrk_iff {l : List Nat} {k : Nat} : mrk l k = true ↔ l[k]? = some 58 ∧ ((0 < k ∧ l[k - 1]? = some 58) ∨ l[k + 1]? = some 58) := by
  simp [mrk]
def runAt (l : List Nat) : Nat → Bool
  | 0 => false
  | k + 1 => mrk l k
/-- what stands behind k turns of the law's own cut -/
structure CutI (l : List Nat) (k : Nat) (ps : List (List Nat)) (f b : Nat) : Prop where
  hk : k ≤ l.length
  hb : b ≤ k
  hf : f ≤ b
  cols : ∀ i, f ≤ i → i < b → l[i]? = some 58
  edge : f = 0 ∨ l[f - 1]? ≠ some 58
  run : runAt l k = true → b = k
  two : 0 < b → dc (l.drop f) = true
  none : b = 0 → ∀ i, i < k → mrk l i = false
  left : 0 < b → seg true [] (l.drop b) = seg (runAt l k) ((l.take k).drop b) (l.drop k)
  parts : ∃ pre, ps = pre ++ [(l.take k).drop b] ∧ pre ++ seg (if k = 0 then dc l else runAt l k) ((l.take k).drop b) (l.drop k) = partsL l
theorem CutI.start (l : List Nat) : CutI l 0 [[]] 0 0 := by
  refine ⟨Nat.zero_le _, Nat.le_refl _, Nat.le_refl _, ?_, .inl rfl, ?_, ?_, ?_, ?_, ⟨[], ?_, ?_⟩⟩
  · intro i h1 h2; omega
  · intro h; cases h
  · intro h; omega
  · intro _ i h; omega
  · intro h; omega
  · simp
  · simp [partsL]
theorem take_drop_succ {l : List Nat} {k b : Nat} (h : k < l.length) (hb : b ≤ k) : (l.take (k + 1)).drop b = (l.take k).drop b ++ [l[k]] := by
  rw [List.take_add_one, List.drop_append_of_le_length (by rw [List.length_take]; omega)]
  simp [List.getElem?_eq_getElem h]
theorem take_drop_self {l : List Nat} {k : Nat} : (l.take k).drop k = [] := by
  rw [List.drop_eq_nil_iff, List.length_take]; omega
/-- not in a run: the sign ahead is no colon if this one is -/
theorem run_false {l : List Nat} {k : Nat} (h : runAt l k = false) (hk : l[k]? = some 58) : k = 0 ∨ l[k - 1]? ≠ some 58 := by
  cases k with
  | zero => exact .inl rfl
  | succ n =>
    right
    intro e
    have e' : l[n]? = some 58 := by simpa using e
    have : mrk l n = true := mrk_iff.mpr ⟨e', .inr hk⟩
    simp [runAt, this] at h
theorem run_true {l : List Nat} {k : Nat} (h : runAt l k = true) : 0 < k ∧ l[k - 1]? = some 58 := by
  cases k with
  | zero => cases h
  | succ n => exact ⟨Nat.succ_pos _, by simpa using (mrk_iff.mp (show mrk l n = true from h)).1⟩
/-- a sign that is not marked -/
theorem CutI.plain {l : List Nat} {k : Nat} {pre : List (List Nat)} {q : List Nat} {f b : Nat} (I : CutI l k (pre ++ [q]) f b) (h : k < l.length) (hm : mrk l k = false) :
    CutI l (k + 1) (pre ++ [q ++ [l[k]]]) f b := by
  obtain ⟨pre', e, hp⟩ := I.parts
  obtain ⟨rfl, hq⟩ := List.append_inj' e rfl
  have hq : q = (l.take k).drop b := by simpa using hq
  have hd : l.drop k = l[k] :: l.drop (k + 1) := List.drop_eq_getElem_cons h
  have hnr : runAt l (k + 1) = false := hm
  have hacc := take_drop_succ (l := l) h I.hb
  -- the step of seg
  have step : ∀ r, (r = (if k = 0 then dc l else runAt l k) ∨ r = runAt l k) → seg r ((l.take k).drop b) (l.drop k) = seg false ((l.take (k + 1)).drop b) (l.drop (k + 1)) := by
    intro r hr
    have hdc : dc (l[k] :: l.drop (k + 1)) = false := by
      rw [← hd]
      rcases hx : dc (l.drop k) with _ | _
      · rfl
      · have hx2 := dc_drop.mp hx
        have : mrk l k = true := mrk_iff.mpr ⟨hx2.1, .inr hx2.2⟩
        rw [hm] at this; cases this
    have hrf : r = true → l[k] ≠ 58 := by
      intro hrt hc
      have hc' : l[k]? = some 58 := by rw [List.getElem?_eq_getElem h, hc]
      rcases hr with hr | hr
      · by_cases h0 : k = 0
        · subst h0
          rw [if_pos rfl, hrt] at hr
          have : dc (l.drop 0) = true := hr.symm
          rw [hd] at this; rw [this] at hdc; cases hdc
        · rw [if_neg h0, hrt] at hr
          have q := run_true hr.symm
          have : mrk l k = true := mrk_iff.mpr ⟨hc', .inl q⟩
          rw [hm] at this; cases this
      · rw [hrt] at hr
        have q := run_true hr.symm
        have : mrk l k = true := mrk_iff.mpr ⟨hc', .inl q⟩
        rw [hm] at this; cases this
    rw [hd, hacc]
    cases r with
    | true => simp only [seg, if_neg (hrf rfl)]
    | false => simp only [seg, hdc]; rfl
  refine ⟨h, Nat.le_succ_of_le I.hb, I.hf, I.cols, I.edge, ?_, I.two, ?_, ?_, ⟨pre, ?_, ?_⟩⟩
  · rw [hnr]; intro x; cases x
  · intro hb0 i hi
    rcases Nat.lt_succ_iff_lt_or_eq.mp hi with hi | rfl
    · exact I.none hb0 i hi
    · exact hm
  · intro hb0
    rw [I.left hb0, hnr]
    exact step _ (.inr rfl)
  · rw [hacc, hq]
  · rw [if_neg (Nat.succ_ne_zero _), hnr, ← step _ (.inl rfl)]
    exact hp
/-- the first sign of a run at the very start -/
theorem CutI.begin0 {l : List Nat} {ps : List (List Nat)} {f b : Nat} (I : CutI l 0 ps f b) (h : 0 < l.length) (hm : mrk l 0 = true) : CutI l 1 ps 0 1 := by
  have hb : b = 0 := Nat.le_zero.mp I.hb
  subst hb
  obtain ⟨pre, e, hp⟩ := I.parts
  have hx := mrk_iff.mp hm
  have hd0 : dc (l.drop 0) = true := dc_drop.mpr ⟨hx.1, by
    rcases hx.2 with q | q
    · omega
    · exact q⟩
  have hd : l.drop 0 = l[0] :: l.drop 1 := List.drop_eq_getElem_cons h
  have hc : l[0] = 58 := by have := hx.1; rw [List.getElem?_eq_getElem h] at this; simpa using this
  have hr : runAt l 1 = true := hm
  refine ⟨h, Nat.le_refl _, Nat.zero_le _, ?_, .inl rfl, fun _ => rfl, fun _ => hd0, ?_, ?_, ⟨pre, ?_, ?_⟩⟩
  · intro i _ h2
    have : i = 0 := by omega
    rw [this]; exact hx.1
  · intro x; omega
  · intro _
    rw [hr, take_drop_self]
  · rw [take_drop_self, e]; simp
  · rw [if_neg Nat.one_ne_zero, hr, take_drop_self]
    rw [if_pos rfl, show dc l = true from hd0, hd, hc] at hp
    simpa [seg] using hp
/-- the first sign of a run further on -/
theorem CutI.begin1 {l : List Nat} {k : Nat} {ps : List (List Nat)} {f b : Nat} (I : CutI l k ps f b) (h : k < l.length) (h0 : 0 < k) (hm : mrk l k = true) (hr0 : runAt l k = false) :
    CutI l (k + 1) (ps ++ [[]]) k (k + 1) := by
  obtain ⟨pre, e, hp⟩ := I.parts
  have hx := mrk_iff.mp hm
  have hedge := run_false hr0 hx.1
  have hd0 : dc (l.drop k) = true := dc_drop.mpr ⟨hx.1, by
    rcases hx.2 with q | q
    · rcases hedge with z | z
      · omega
      · exact absurd q.2 z
    · exact q⟩
  have hd : l.drop k = l[k] :: l.drop (k + 1) := List.drop_eq_getElem_cons h
  have hr : runAt l (k + 1) = true := hm
  refine ⟨h, Nat.le_refl _, Nat.le_succ _, ?_, hedge, fun _ => rfl, fun _ => hd0, ?_, ?_, ⟨ps, ?_, ?_⟩⟩
  · intro i h1 h2
    have : i = k := by omega
    rw [this]; exact hx.1
  · intro x; omega
  · intro _
    rw [hr, take_drop_self]
  · rw [take_drop_self]
  · rw [if_neg (Nat.succ_ne_zero _), hr, take_drop_self]
    rw [if_neg (Nat.ne_of_gt h0), hr0, hd] at hp
    rw [hd] at hd0
    simp only [seg, hd0, if_true] at hp
    rw [← hp, e]
    simp
/-- a further sign of a run -/
theorem CutI.go {l : List Nat} {k : Nat} {ps : List (List Nat)} {f b : Nat} (I : CutI l k ps f b) (h : k < l.length) (hm : mrk l k = true) (hr0 : runAt l k = true) :
    CutI l (k + 1) ps f (k + 1) := by
  obtain ⟨pre, e, hp⟩ := I.parts
  have hx := mrk_iff.mp hm
  have hbk := I.run hr0
  subst hbk
  have h0 := (run_true hr0).1
  have hd : l.drop b = l[b] :: l.drop (b + 1) := List.drop_eq_getElem_cons h
  have hc : l[b] = 58 := by have := hx.1; rw [List.getElem?_eq_getElem h] at this; simpa using this
  have hr : runAt l (b + 1) = true := hm
  refine ⟨h, Nat.le_refl _, Nat.le_succ_of_le I.hf, ?_, I.edge, fun _ => rfl, fun _ => I.two h0, ?_, ?_, ⟨pre, ?_, ?_⟩⟩
  · intro i h1 h2
    by_cases hi : i < b
    · exact I.cols i h1 hi
    · have : i = b := by omega
      rw [this]; exact hx.1
  · intro x; omega
  · intro _
    rw [hr, take_drop_self]
  · rw [take_drop_self, e, take_drop_self]
  · rw [if_neg (Nat.succ_ne_zero _), hr, take_drop_self]
    rw [if_neg (Nat.ne_of_gt h0), hr0, take_drop_self, hd, hc] at hp
    simpa [seg] using hp
/-- the end of the law's cut -/
theorem CutI.done {l : List Nat} {ps : List (List Nat)} {f b : Nat} (I : CutI l l.length ps f b) : ps = partsL l ∧ l.take f = qualL l ∧ l.drop b = lastP l ∧ (b = 0 ∨ seg false [] l = seg false [] (qualL l) ++ [lastP l]) := by
  obtain ⟨pre, e, hp⟩ := I.parts
  have hps : ps = partsL l := by
    rw [← hp, e]
    simp [seg]
  have hlast : l.drop b = lastP l := by
    have : lastP l = ps.getLastD [] := by rw [lastP, hps]
    rw [this, e]
    simp
  have hq : l.take f = qualL l := by
    unfold qualL
    rw [← hlast, List.length_drop]
    have : l.length - (l.length - b) = b := by have := I.hb; omega
    rw [this, strip_is b I.hf I.cols I.edge]
  refine ⟨hps, hq, hlast, ?_⟩
  by_cases hb : b = 0
  · exact .inl hb
  · right
    have hb' : 0 < b := Nat.pos_of_ne_zero hb
    have hd := I.two hb'
    have hfb : f < b := by
      rcases Nat.lt_or_eq_of_le I.hf with h | h
      · exact h
      · exfalso
        have hl := I.left hb'
        have := dc_drop.mp hd
        rw [h] at this
        -- the run would go on at b
        have hn : l.length = b ∨ b < l.length := by have := I.hb; omega
        rcases hn with hn | hn
        · rw [List.getElem?_eq_none (by omega)] at this; simp at this
        · have hr : seg true [] (l.drop b) = [lastP l] := by
            rw [hl]; simp [seg, hlast]
          have e1 := seg_run (l := l) (b + 2) (f := b) (by omega) (fun i h1 h2 => by
            have : i = b ∨ i = b + 1 := by omega
            rcases this with rfl | rfl
            · exact this.1
            · exact this.2) []
          rw [hr] at e1
          have s := seg_sum true [] (l.drop (b + 2))
          rw [← e1] at s
          simp only [List.map_cons, List.map_nil, List.sum_cons, List.sum_nil, ← hlast, List.length_drop, List.length_nil] at s
          omega
    have hl := I.left hb'
    have h1 : seg true [] (l.drop b) = [lastP l] := by rw [hl]; simp [seg, hlast]
    have hp' : (l.take f).getLast? ≠ some 58 := by
      rcases I.edge with h | h
      · rw [h]; simp
      · rw [List.getLast?_take]
        split
        · simp
        · have : f ≤ l.length := by have := I.hb; omega
          have hlt : f - 1 < l.length := by omega
          rw [List.getElem?_eq_getElem hlt] at h ⊢
          simpa using h
    have s := seg_split (p := l.take f) (q := l.drop f) hd hp' false [] (.inl rfl)
    rw [List.take_append_drop] at s
    rw [s, ← hq, List.tail_drop]
    have e2 := seg_run (l := l) b (f := f + 1) hfb (fun i h1 h2 => I.cols i (by omega) h2) []
    rw [e2, h1]
theorem cut_exists (l : List Nat) : ∀ k, k ≤ l.length → ∃ ps f b, CutI l k ps f b
  | 0, _ => ⟨_, _, _, CutI.start l⟩
  | k + 1, h => by
    obtain ⟨ps, f, b, I⟩ := cut_exists l k (by omega)
    cases hm : mrk l k with
    | false =>
      obtain ⟨pre, e, _⟩ := I.parts
      subst e
      exact ⟨_, _, _, I.plain h hm⟩
    | true =>
      cases hr : runAt l k with
      | true => exact ⟨_, _, _, I.go h hm hr⟩
      | false =>
        by_cases h0 : k = 0
        · subst h0; exact ⟨_, _, _, I.begin0 h hm⟩
        · exact ⟨_, _, _, I.begin1 h (Nat.pos_of_ne_zero h0) hm hr⟩
theorem hasDC_iff {l : List Nat} : hasDC l = true ↔ ∃ i, dc (l.drop i) = true := by
  induction l with
  | nil => simp [hasDC, dc]
  | cons c r ih =>
    simp only [hasDC, Bool.or_eq_true, ih]
    constructor
    · rintro (h | ⟨i, h⟩)
      · exact ⟨0, h⟩
      · exact ⟨i + 1, by simpa using h⟩
    · rintro ⟨i, h⟩
      cases i with
      | zero => exact .inl h
      | succ i => exact .inr ⟨i, by simpa using h⟩
theorem chain_none {l : List Nat} (h : hasDC l = false) : seg false [] l = [l] := by
  have : ∀ i, dc (l.drop i) = false := by
    intro i
    rcases hx : dc (l.drop i) with _ | _
    · rfl
    · have := hasDC_iff.mpr ⟨i, hx⟩
      rw [h] at this; cases this
  simpa using seg_none (acc := []) this
theorem chain_some {l : List Nat} (h : hasDC l = true) : seg false [] l = seg false [] (qualL l) ++ [lastP l] := by
  obtain ⟨ps, f, b, I⟩ := cut_exists l l.length (Nat.le_refl _)
  rcases I.done.2.2.2 with hb | hb
  · exfalso
    obtain ⟨i, hi⟩ := hasDC_iff.mp h
    have hx := dc_drop.mp hi
    have hlt : i < l.length := by
      rcases Nat.lt_or_ge i l.length with h | h
      · exact h
      · simp [List.getElem?_eq_none h] at hx
    have := I.none hb i hlt
    rw [mrk_iff.mpr ⟨hx.1, .inr hx.2⟩] at this
    cases this
  · exact hb
theorem seg_count (n : Nat) : ∀ (b : Bool) (acc l : List Nat), l.length ≤ n → 2 * (seg b acc l).length ≤ l.length + 2 := by
  induction n with
  | zero =>
    intro b acc l h
    have : l = [] := List.length_eq_zero_iff.mp (by omega)
    subst this
    cases b <;> simp [seg]
  | succ n ih =>
    intro b acc l h
    rcases l with _ | ⟨c, r⟩
    · cases b <;> simp [seg]
    · simp only [List.length_cons] at h ⊢
      cases b <;> simp only [seg] <;> split
      · rename_i hd
        have h0 := (dc_cons.mp hd).2
        rcases r with _ | ⟨d, t⟩
        · simp at h0
        · have hd2 : d = 58 := by simpa using h0
          simp only [List.length_cons] at h ⊢
          simp only [seg, hd2, if_true]
          have := ih true [] t (by omega)
          omega
      · have := ih false (acc ++ [c]) r (by omega); omega
      · have := ih true acc r (by omega); omega
      · have := ih false (acc ++ [c]) r (by omega); omega
/-- what stands behind k turns of the law's chain -/
structure ChainI (l : List Nat) (k : Nat) (tails : List (List Nat)) (rest : List Nat) : Prop where
  all : seg false [] rest ++ tails = seg false [] l
  few : (seg false [] rest).length = 1 ∨ (seg false [] rest).length + k ≤ 13
  len : rest.length ≤ l.length
  cnt : tails.length ≤ k
theorem ChainI.start {l : List Nat} (h : l.length ≤ 24) : ChainI l 0 [] l := by
  refine ⟨List.append_nil _, .inr ?_, Nat.le_refl _, Nat.le_refl _⟩
  have := seg_count l.length false [] l (Nat.le_refl _)
  omega
theorem qual_len (l : List Nat) : (qualL l).length ≤ l.length := by
  unfold qualL; rw [List.length_take]; omega
theorem ChainI.step {l rest : List Nat} {k : Nat} {tails : List (List Nat)} (I : ChainI l k tails rest) (h : hasDC rest = true) : ChainI l (k + 1) (lastP rest :: tails) (qualL rest) := by
  have e := chain_some h
  have hl := congrArg List.length e
  simp only [List.length_append, List.length_cons, List.length_nil] at hl
  refine ⟨?_, ?_, Nat.le_trans (qual_len _) I.len, Nat.succ_le_succ I.cnt⟩
  · rw [← I.all, e]; simp
  · have := I.few
    have h0 : (seg false [] (qualL rest)).length ≠ 0 := fun z => seg_ne _ _ _ (List.length_eq_zero_iff.mp z)
    omega
theorem ChainI.stay {l rest : List Nat} {k : Nat} {tails : List (List Nat)} (I : ChainI l k tails rest) (h : hasDC rest = false) : ChainI l (k + 1) tails rest :=
  ⟨I.all, .inl (by rw [chain_none h]; rfl), I.len, Nat.le_succ_of_le I.cnt⟩
theorem ChainI.done {l rest : List Nat} {tails : List (List Nat)} (I : ChainI l 12 tails rest) : (dc l = true → tails = partsL l ∧ rest = []) ∧ (dc l = false → tails = (partsL l).tail ∧ (partsL l)[0]? = some rest) := by
  have h1 : (seg false [] rest).length = 1 := by
    have := I.few
    have h0 : (seg false [] rest).length ≠ 0 := fun z => seg_ne _ _ _ (List.length_eq_zero_iff.mp z)
    omega
  have hr : hasDC rest = false := by
    rcases hx : hasDC rest with _ | _
    · rfl
    · have e := congrArg List.length (chain_some hx)
      have h0 : (seg false [] (qualL rest)).length ≠ 0 := fun z => seg_ne _ _ _ (List.length_eq_zero_iff.mp z)
      simp only [List.length_append, List.length_cons, List.length_nil] at e
      omega
  have e := I.all
  rw [chain_none hr] at e
  constructor
  · intro hd
    rcases l with _ | ⟨c, r⟩
    · simp [dc] at hd
    · have hc := (dc_cons.mp hd).1
      simp only [seg, hd, if_true] at e
      have e2 : partsL (c :: r) = seg true [] r := by
        rw [partsL, hd]
        simp only [seg, if_pos hc]
      rw [e2]
      simpa [and_comm] using e
  · intro hd
    rw [partsL, hd, ← e]
    simp
end Mine
end
section
open PySem PySem.W PyProof.Rows PySem.Calls PySem.Builtin PySem.Builtin.Str
namespace Mine
abbrev toL (x : Str) : List Nat := x.cps.toList
abbrev ofL (l : List Nat) : Str := ⟨l.toArray⟩
theorem ofL_toL (x : Str) : ofL (toL x) = x := Str.ext' (by simp)
theorem toL_len (x : Str) : (toL x).length = x.length := by simp [toL, Str.length]
theorem ofL_len (l : List Nat) : (ofL l).length = l.length := by simp [ofL, Str.length]
theorem toL_inj {x y : Str} (h : toL x = toL y) : x = y := by rw [← ofL_toL x, ← ofL_toL y, h]
theorem toL_app (x y : Str) : toL (x ++ y) = toL x ++ toL y := by simp [toL, Str.cps_append]
theorem slice_ss {x : Str} {i j : Nat} (h : i ≤ j) (hj : j ≤ x.length) : Txt.slice x (some (i : Int)) (some (j : Int)) = ofL (((toL x).drop i).take (j - i)) := by
  show StrLaws.sliceText x (some (i : Int)) (some (j : Int)) = _
  rw [StrLaws.sliceText_plain ⟨by omega, by omega, by have := toL_len x; simp only [toL] at this; omega⟩]
  have : ((j : Int) - (i : Int)).toNat = j - i := by omega
  simp [ofL, toL, this]
theorem slice_sn {x : Str} {i : Nat} (h : i ≤ x.length) : Txt.slice x (some (i : Int)) none = ofL ((toL x).drop i) := by
  show StrLaws.sliceText x (some (i : Int)) none = _
  rw [StrLaws.sliceText_from ⟨by omega, by have := toL_len x; simp only [toL] at this; omega⟩]
  have e : ((x.cps.toList.length : Int) - (i : Int)).toNat = (x.cps.toList.drop i).length := by simp
  simp only [Int.toNat_natCast, e, List.take_length]
theorem slice_ns {x : Str} {j : Nat} (h : j ≤ x.length) : Txt.slice x none (some (j : Int)) = ofL ((toL x).take j) := by
  show StrLaws.sliceText x none (some (j : Int)) = _
  rw [StrLaws.sliceText_to ⟨by omega, by have := toL_len x; simp only [toL] at this; omega⟩]
  simp [ofL, toL]
theorem cc_toL : toL (Str.ofString "::") = [58, 58] := by decide +kernel
theorem cc_len : (Str.ofString "::").length = 2 := by decide +kernel
theorem at_cc {x : Str} {i : Nat} : StrLaws.At x (Str.ofString "::") x.length i ↔ dc ((toL x).drop i) = true := by
  unfold StrLaws.At
  rw [cc_len, StrLaws.subAt_eq, cc_len, show (Str.ofString "::").cps.toList = [58, 58] from cc_toL, beq_iff_eq, dc_drop]
  have hl := toL_len x
  show i + 2 ≤ x.length ∧ ((toL x).drop i).take 2 = [58, 58] ↔ _
  constructor
  · rintro ⟨h1, h2⟩
    have a := congrArg (·[0]?) h2
    have b := congrArg (·[1]?) h2
    simp only [List.getElem?_take, List.getElem?_drop] at a b
    exact ⟨by simpa using a, by simpa using b⟩
  · rintro ⟨h1, h2⟩
    have hlt : i + 1 < (toL x).length := by
      rcases Nat.lt_or_ge (i + 1) (toL x).length with h | h
      · exact h
      · rw [List.getElem?_eq_none h] at h2; cases h2
    refine ⟨by omega, ?_⟩
    rw [List.drop_eq_getElem_cons (by omega), List.drop_eq_getElem_cons hlt]
    rw [List.getElem?_eq_getElem (by omega)] at h1
    rw [List.getElem?_eq_getElem hlt] at h2
    simp only [Option.some.injEq] at h1 h2
    simp [h1, h2]
theorem find3_cc (x : Str) (i : Nat) : (Txt.find3 x (Str.ofString "::") (i : Int) = -1 ∧ ∀ k, i ≤ k → dc ((toL x).drop k) = false) ∨
    ∃ k : Nat, Txt.find3 x (Str.ofString "::") (i : Int) = (k : Int) ∧ i ≤ k ∧ k + 2 ≤ x.length ∧ dc ((toL x).drop k) = true ∧ ∀ j, i ≤ j → j < k → dc ((toL x).drop j) = false := by
  have hfi : fromIndex x.length (i : Int) = i := by
    unfold fromIndex
    have : ¬ ((i : Int) < 0) := by omega
    simp only [this, if_false]
    omega
  unfold Txt.find3
  rw [hfi]
  rcases StrLaws.occ_head_from x (Str.ofString "::") i 1 (Nat.le_refl 1) with ⟨h0, hn⟩ | ⟨k, r, h0, hlo, hk, hn⟩
  · rw [h0]
    refine .inl ⟨rfl, fun v h1 => ?_⟩
    rcases hx : dc ((toL x).drop v) with _ | _
    · rfl
    · exact absurd (at_cc.mpr hx) (hn v h1)
  · rw [h0]
    refine .inr ⟨k, rfl, hlo, ?_, at_cc.mp hk, fun j h1 h2 => ?_⟩
    · have := hk.1; rw [cc_len] at this; exact this
    · rcases hx : dc ((toL x).drop j) with _ | _
      · rfl
      · exact absurd (at_cc.mpr hx) (hn j h1 h2)
theorem find_cc (x : Str) : Txt.find x (Str.ofString "::") = Txt.find3 x (Str.ofString "::") ((0 : Nat) : Int) := find_is_find3 x _
theorem contains_cc (x : Str) : Txt.contains x (Str.ofString "::") = hasDC (toL x) := by
  unfold Txt.contains
  rcases StrLaws.occ_head_from x (Str.ofString "::") 0 1 (Nat.le_refl 1) with ⟨h0, hn⟩ | ⟨k, r, h0, hlo, hk, hn⟩
  · rw [h0]
    rcases hx : hasDC (toL x) with _ | _
    · rfl
    · obtain ⟨i, hi⟩ := hasDC_iff.mp hx
      exact absurd (at_cc.mpr hi) (hn i (Nat.zero_le _))
  · rw [h0, hasDC_iff.mpr ⟨k, at_cc.mp hk⟩]
    rfl
end Mine
end
section
open PySem PySem.W PyProof.Rows
namespace Mine
set_option maxHeartbeats 8000000 in
open_top hd for PySem.Challenge.rw_np0126_01
end Mine
end
section
open PySem PySem.W PyProof.Rows PySem.Calls
namespace Mine
theorem with_row {P : Prop} (h : PySem.Challenge.rw_np0126_01 = PySem.Challenge.rw_np0126_01 → hd.heap_39 = hd.heap_39 → P) : P := h rfl rfl
def Hold (P : Prop) : Prop := P
theorem hold {P : Prop} (h : Hold P) : P := h
theorem unhold {P : Prop} (h : P) : Hold P := h
end Mine
end
section
open PySem PySem.W PyProof.Rows PySem.Calls PySem.Builtin PySem.Builtin.Str
namespace Mine
section
variable {prog : Program} {w : World} {A : Around} {E : Value → Shared → Prop} {s : Shared} {h₀ : Heap} {L l : Addr} {m : Str → Option Value} {news : List (Addr × Obj)}
theorem app1 {vs : List Value} {n : Nat} {x : Value} {Q : Value → Shared → Prop} (F : Fr h₀ L s.heap m) (N : News h₀ L s.heap ((l, listOf vs.toArray n) :: news)) (hlt : ∀ p ∈ news, p.1 < l) (hsz : vs.length ≤ 100000)
    (h : ∀ h', Fr h₀ L h' m → News h₀ L h' ((l, listOf (vs ++ [x]).toArray (n + 1)) :: news) → Q .none { s with heap := h' }) : wpAny (model prog w) A (call (.builtin "list.append") [.ref l, x]) Q E s := by
  refine append_K F N (.head fun p hp => Nat.ne_of_lt (hlt p hp)) (fun h' F' N' => h h' F' ?_) (by rw [List.size_toArray, PySem.sizeLine_eq]; omega)
  rw [List.push_toArray] at N'
  exact N'
end
/-- between the turns of name_parts' loop -/
def NPI (x : Str) (ps : List Str) (st at_ : Int) : Prop := ∃ i : Nat, st = (i : Int) ∧ i ≤ x.length ∧ at_ = Txt.find3 x (Str.ofString "::") (i : Int) ∧
  ((i = 0 ∧ ps = []) ∨ (0 < i ∧ ps.map toL ++ seg false [] ((toL x).drop i) = partsL (toL x)))
def NPJ (x : Str) (at_ st : Int) : Prop := ∃ j : Nat, st = (j : Int) ∧ at_ + 2 ≤ (j : Int) ∧ j ≤ x.length ∧ dropC ((toL x).drop (at_ + 2).toNat) = dropC ((toL x).drop j)
theorem NPI.start (x : Str) : NPI x [] 0 (Txt.find x (Str.ofString "::")) := ⟨0, rfl, Nat.zero_le _, find_cc x, .inl ⟨rfl, rfl⟩⟩
theorem NPI.bounds {x : Str} {ps : List Str} {st at_ : Int} (I : NPI x ps st at_) : 0 ≤ st ∧ st ≤ (x.length : Int) ∧ (0 ≤ at_ → st ≤ at_ ∧ at_ + 2 ≤ (x.length : Int)) ∧ ps.length ≤ x.length + 1 := by
  obtain ⟨i, rfl, hi, rfl, h⟩ := I
  refine ⟨by omega, by omega, ?_, ?_⟩
  · rcases find3_cc x i with ⟨e, _⟩ | ⟨k, e, h1, h2, _⟩ <;> rw [e] <;> omega
  · rcases h with ⟨_, rfl⟩ | ⟨_, h⟩
    · simp
    · have a := congrArg List.length h
      have b := (parts_sum (toL x)).2
      have c := toL_len x
      simp only [List.length_append, List.length_map] at a
      omega
theorem NPJ.start {x : Str} {at_ : Int} (h : 0 ≤ at_) (h2 : at_ + 2 ≤ (x.length : Int)) : NPJ x at_ (at_ + 2) := ⟨(at_ + 2).toNat, by omega, by omega, by omega, rfl⟩
theorem NPJ.bounds {x : Str} {at_ st : Int} (J : NPJ x at_ st) : at_ + 2 ≤ st ∧ st ≤ (x.length : Int) := by
  obtain ⟨j, rfl, h1, h2, _⟩ := J; omega
theorem sign_at {x : Str} {j : Nat} (h : j < x.length) : (toL x)[j]? = some (x.cps.getD j 0) := by
  have hl : j < x.cps.size := h
  simp [toL, hl, Array.getD]
theorem colon_toL : Str.ofString ":" = ofL [58] := by decide +kernel
theorem item_is {x : Str} {i : Int} (h0 : 0 ≤ i) (h1 : i < (x.length : Int)) : Txt.item x i = ofL [x.cps.getD i.toNat 0] := item_meets ⟨h0, h1⟩
theorem ofL_one {a b : Nat} : (ofL [a] == ofL [b]) = decide (a = b) := by
  rw [Bool.eq_iff_iff, beq_iff_eq, decide_eq_true_iff]
  constructor
  · intro h
    have := congrArg toL h
    simpa [ofL, toL] using this
  · rintro rfl; rfl
theorem item_colon {x : Str} {i : Int} {b : Bool} (h0 : 0 ≤ i) (h1 : i < (x.length : Int)) (h : (Txt.item x i == Str.ofString ":") = b) : b = true ↔ (toL x)[i.toNat]? = some 58 := by
  rw [item_is h0 h1, colon_toL, ofL_one] at h
  rw [sign_at (by omega), ← h]
  simp
theorem NPJ.step {x : Str} {at_ st : Int} (J : NPJ x at_ st) (h : st < (x.length : Int)) (hc : (toL x)[st.toNat]? = some 58) : NPJ x at_ (st + 1) := by
  obtain ⟨j, rfl, h1, h2, h3⟩ := J
  refine ⟨j + 1, by omega, by omega, by omega, ?_⟩
  have hlt : j < (toL x).length := by rw [toL_len]; omega
  rw [h3, List.drop_eq_getElem_cons hlt]
  have e : (toL x)[j] = 58 := by
    have : (toL x)[j]? = some 58 := by simpa using hc
    rw [List.getElem?_eq_getElem hlt] at this
    simpa using this
  rw [dropC, if_pos e]
theorem NPJ.done {x : Str} {at_ st : Int} (J : NPJ x at_ st) (h : st = (x.length : Int) ∨ (toL x)[st.toNat]? ≠ some 58) : dropC ((toL x).drop (at_ + 2).toNat) = (toL x).drop st.toNat := by
  obtain ⟨j, rfl, h1, h2, h3⟩ := J
  rw [h3]
  simp only [Int.toNat_natCast] at h ⊢
  rcases Nat.lt_or_ge j (toL x).length with hlt | hge
  · rw [List.drop_eq_getElem_cons hlt]
    have e : (toL x)[j] ≠ 58 := by
      rcases h with h | h
      · have := toL_len x; omega
      · rw [List.getElem?_eq_getElem hlt] at h
        simpa using h
    rw [dropC, if_neg e]
  · rw [List.drop_eq_nil_iff.mpr hge]; rfl
theorem NPI.turn {x : Str} {ps : List Str} {st at_ st' : Int} (I : NPI x ps st at_) (h0 : 0 ≤ at_) (J : NPJ x at_ st') (hd : st' = (x.length : Int) ∨ (toL x)[st'.toNat]? ≠ some 58) :
    NPI x (if 0 < at_ then ps ++ [Txt.slice x (some st) (some at_)] else ps) st' (Txt.find3 x (Str.ofString "::") st') := by
  have hdrop := J.done hd
  obtain ⟨i, rfl, hi, rfl, h⟩ := I
  obtain ⟨j, rfl, h1, h2, _⟩ := J
  refine ⟨j, rfl, h2, rfl, .inr ⟨by omega, ?_⟩⟩
  simp only [Int.toNat_natCast] at hdrop
  rw [← hdrop, ← seg_true_drop]
  rcases find3_cc x i with ⟨e, _⟩ | ⟨k, e, hik, hk2, hdk, hno⟩
  · omega
  · rw [e] at h0 h1 ⊢
    have e2 : ((k : Int) + 2).toNat = k + 2 := by omega
    rw [e2]
    have first : seg false [] ((toL x).drop i) = ((toL x).drop i).take (k - i) :: seg true [] ((toL x).drop (k + 2)) := by
      have := seg_first (l := (toL x).drop i) (acc := []) (j := k - i) (by rw [List.drop_drop]; rw [show i + (k - i) = k by omega]; exact hdk)
        (fun v hv => by rw [List.drop_drop]; exact hno (i + v) (by omega) (by omega))
      rw [this, List.drop_drop, show i + (k - i + 2) = k + 2 by omega, List.nil_append]
    by_cases hk : 0 < k
    · rw [if_pos (by omega), slice_ss hik (by omega), List.map_append, List.append_assoc]
      have hp : ps.map toL ++ seg false [] ((toL x).drop i) = partsL (toL x) := by
        rcases h with ⟨rfl, rfl⟩ | ⟨_, h⟩
        · have : dc (toL x) = false := by simpa using hno 0 (Nat.le_refl _) hk
          simp [partsL, this]
        · exact h
      rw [← hp, first]
      simp [toL, ofL]
    · rw [if_neg (by omega)]
      have hi0 : i = 0 := by omega
      have hk0 : k = 0 := by omega
      subst hi0 hk0
      have hps : ps = [] := by
        rcases h with ⟨_, h⟩ | ⟨h, _⟩
        · exact h
        · omega
      subst hps
      have hd0 : dc (toL x) = true := by simpa using hdk
      rcases hx : toL x with _ | ⟨c, _ | ⟨d, t⟩⟩
      · rw [hx] at hd0; simp [dc] at hd0
      · rw [hx] at hd0; simp [dc] at hd0
      · rw [hx] at hd0
        have hcd := hd0
        simp [dc] at hcd
        rw [partsL, hd0]
        simp [seg, hcd.1, hcd.2]
theorem NPI.done {x : Str} {ps : List Str} {st at_ : Int} (I : NPI x ps st at_) (h : ¬ 0 ≤ at_) : ps ++ [Txt.slice x (some st) none] = (partsL (toL x)).map ofL := by
  obtain ⟨i, rfl, hi, rfl, h'⟩ := I
  rcases find3_cc x i with ⟨e, hno⟩ | ⟨k, e, _⟩
  · have hs : seg false [] ((toL x).drop i) = [(toL x).drop i] := by
      simpa using seg_none (l := (toL x).drop i) (acc := []) (fun v => by rw [List.drop_drop]; exact hno (i + v) (by omega))
    have hp : ps.map toL ++ seg false [] ((toL x).drop i) = partsL (toL x) := by
      rcases h' with ⟨rfl, rfl⟩ | ⟨_, h'⟩
      · have : dc (toL x) = false := by simpa using hno 0 (Nat.le_refl _)
        simp [partsL, this]
      · exact h'
    rw [← hp, hs, slice_sn hi, List.map_append, List.map_map]
    congr 1
    have : (ofL ∘ toL) = _root_.id := funext ofL_toL
    rw [this, List.map_id]
  · omega
theorem abs_is (x : Str) : (Txt.find x (Str.ofString "::") == 0) = dc (toL x) := by
  rw [find_cc]
  rcases find3_cc x 0 with ⟨e, hno⟩ | ⟨k, e, _, _, hd, hno⟩
  · rw [e]
    have := hno 0 (Nat.le_refl _)
    simp only [List.drop_zero] at this
    rw [this]; rfl
  · rw [e]
    by_cases hk : k = 0
    · subst hk
      simp only [List.drop_zero] at hd
      rw [hd]; rfl
    · have := hno 0 (Nat.le_refl _) (Nat.pos_of_ne_zero hk)
      simp only [List.drop_zero] at this
      rw [this]
      have : ¬ (k : Int) = 0 := by omega
      simpa using this
end Mine
end
section
open PySem PySem.W PyProof.Rows PySem.Calls PySem.Builtin PySem.Builtin.Str
namespace Mine
theorem strs_get : ∀ {vs : List Value} {ys : List Str} {i : Nat} {y : Str}, StrsAre vs ys → ys[i]? = some y → ∃ t, vs[i]? = some (.str y t)
  | _, _, 0, y, .cons z t _, h => by
    have : z = y := by simpa using h
    subst this
    exact ⟨t, rfl⟩
  | _, _, i + 1, _, .cons _ _ r, h => by
    obtain ⟨t, e⟩ := strs_get (i := i) r (by simpa using h)
    exact ⟨t, by simpa using e⟩
section
variable {prog : Program} {w : World} {A : Around} {E : Value → Shared → Prop} {s : Shared} {h₀ : Heap} {L l : Addr} {m : Str → Option Value} {news : List (Addr × Obj)}
theorem strs_last {value slice : Expr} {vs : List Value} {ys : List Str} {u : Tok} {y : Str} {Q : Value → Shared → Prop} (hl : s.heap.IsList l vs.toArray) (hs : StrsAre vs ys) (hy : ys.getLast? = some y) (hz : ys.length ≤ 100000)
    (h : ∀ t, Q (.str y t) s) (hk : subscripted slice false (.ref l) (.int (-1) u) = operate [.ref l, .int (-1) u] (getItem (.ref l) (.int (-1) u)) := by with_unfolding_all rfl) :
    wpAny (model prog w) A (subscriptTail value slice (.ref l) (.int (-1) u)) Q E s := by
  have hlen := StrsAre.length hs
  rw [List.getLast?_eq_getElem?] at hy
  have hpos : 0 < ys.length := by
    rcases Nat.eq_zero_or_pos ys.length with e | e
    · rw [List.length_eq_zero_iff.mp e] at hy; simp at hy
    · exact e
  obtain ⟨t, ht⟩ := strs_get hs hy
  refine tail_any hl.typeIs slot_list_getitem.lookup (wpAny_getItem_list_neg (x := .str y t) hl (by omega) (by rw [List.size_toArray]; omega) (by omega) ?_ (h t)) hk
  rw [List.size_toArray, List.getElem?_toArray, show ((-1 : Int) + (vs.length : Int)).toNat = ys.length - 1 by omega]
  exact ht
theorem strs_item {value slice : Expr} {vs : List Value} {ys : List Str} {k : Int} {u : Tok} {y : Str} {Q : Value → Shared → Prop} (hl : s.heap.IsList l vs.toArray) (hs : StrsAre vs ys) (h0 : 0 ≤ k) (hy : ys[k.toNat]? = some y) (hz : ys.length ≤ 100000)
    (h : ∀ t, Q (.str y t) s) (hk : subscripted slice false (.ref l) (.int k u) = operate [.ref l, .int k u] (getItem (.ref l) (.int k u)) := by with_unfolding_all rfl) :
    wpAny (model prog w) A (subscriptTail value slice (.ref l) (.int k u)) Q E s := by
  have hlt : k.toNat < ys.length := by
    rcases Nat.lt_or_ge k.toNat ys.length with e | e
    · exact e
    · rw [List.getElem?_eq_none e] at hy; cases hy
  obtain ⟨t, ht⟩ := strs_get hs hy
  exact tail_any hl.typeIs slot_list_getitem.lookup (wpAny_getItem_list (x := .str y t) hl h0 (by omega) (by rw [List.getElem?_toArray]; exact ht) (h t)) hk
end
theorem parts_last (l : List Nat) : ((partsL l).map ofL).getLast? = some (ofL (lastP l)) := by
  rw [List.getLast?_map, lastP]
  have : partsL l ≠ [] := seg_ne _ _ _
  rw [List.getLastD_eq_getLast?]
  rw [List.getLast?_eq_some_getLast this]
  rfl
theorem parts_few {x : Str} (h : x.length ≤ 100) : ((partsL (toL x)).map ofL).length ≤ 101 := by
  have := (parts_sum (toL x)).2
  have h2 := toL_len x
  rw [List.length_map]
  omega
end Mine
end
section
open PySem PySem.W PyProof.Rows PySem.Calls PySem.Builtin PySem.Builtin.Str
namespace Mine
theorem lastP_le (l : List Nat) : (lastP l).length ≤ l.length := by
  have hne : partsL l ≠ [] := seg_ne _ _ _
  have e := List.dropLast_concat_getLast hne
  have h := (parts_sum l).1
  rw [← e] at h
  simp only [List.map_append, List.sum_append, List.map_cons, List.map_nil, List.sum_cons, List.sum_nil] at h
  have : lastP l = (partsL l).getLast hne := by
    rw [lastP, List.getLastD_eq_getLast?, List.getLast?_eq_some_getLast hne]; rfl
  rw [this]
  omega
/-- between the turns of qualifiers' loop -/
def QI (x : Str) (at_ : Int) : Prop := ∃ j : Nat, at_ = (j : Int) ∧ j ≤ x.length ∧ stripC (toL x) j = stripC (toL x) ((toL x).length - (lastP (toL x)).length)
theorem QI.start (x : Str) : QI x ((x.length : Int) - ((ofL (lastP (toL x))).length : Int)) := by
  have h := lastP_le (toL x)
  have h2 := toL_len x
  refine ⟨x.length - (lastP (toL x)).length, ?_, by omega, by rw [h2]⟩
  rw [ofL_len (lastP (toL x))]; omega
theorem QI.bounds {x : Str} {at_ : Int} (I : QI x at_) : 0 ≤ at_ ∧ at_ ≤ (x.length : Int) := by obtain ⟨j, rfl, h, _⟩ := I; omega
theorem QI.step {x : Str} {at_ : Int} (I : QI x at_) (h0 : 0 < at_) (hc : (toL x)[(at_ - 1).toNat]? = some 58) : QI x (at_ - 1) := by
  obtain ⟨j, rfl, h, e⟩ := I
  obtain ⟨i, rfl⟩ : ∃ i, j = i + 1 := ⟨j - 1, by omega⟩
  refine ⟨i, by omega, by omega, ?_⟩
  have : ((((i + 1 : Nat) : Int) - 1).toNat) = i := by omega
  rw [this] at hc
  rw [← e, stripC, if_pos hc]
theorem QI.done {x : Str} {at_ : Int} (I : QI x at_) (h : at_ = 0 ∨ (0 < at_ ∧ (toL x)[(at_ - 1).toNat]? ≠ some 58)) : Txt.slice x none (some at_) = ofL (qualL (toL x)) := by
  obtain ⟨j, rfl, hj, e⟩ := I
  have hs : stripC (toL x) j = j := by
    rcases h with h | ⟨h, hc⟩
    · have : j = 0 := by omega
      subst this; rfl
    · obtain ⟨i, rfl⟩ : ∃ i, j = i + 1 := ⟨j - 1, by omega⟩
      have : ((((i + 1 : Nat) : Int) - 1).toNat) = i := by omega
      rw [this] at hc
      rw [stripC, if_neg hc]
  rw [slice_ns hj, qualL, ← e, hs]
end Mine
end
section
open PySem PySem.W PyProof.Rows PySem.Calls PySem.Builtin PySem.Builtin.Str
namespace Mine
/-- a turn's end: what the loop turns stands in a ledger of its own, whose places may be new -/
def REnd {σ : Type} (h₀ : Heap) (L : Addr) (Led : σ → List (Addr × Obj)) (ps : σ → List (Str × Value)) (x : Str) (stored : List Str) (m₀ : Str → Option Value) (P : Nat → σ → Prop) (i : Nat) (own : List (Addr × Obj)) (s : Shared) (s₂ : Shared) : Prop :=
  ∃ (c : σ) (h' : Heap) (tk : Nat) (m' : Str → Option Value) (news' : List (Addr × Obj)), s₂ = { s with heap := h', toks := tk } ∧ Fr h₀ L h' m' ∧ News h₀ L h' news' ∧ (∀ p ∈ Led c, p ∈ news') ∧ (∀ p ∈ own, p ∈ news') ∧ OwnOff own ((Led c).map (·.1)) ∧
    (∀ p ∈ ps c, m' p.1 = some p.2) ∧ (∀ z, z ≠ x → (∀ p ∈ ps c, z ≠ p.1) → stored.contains z = false → m' z = m₀ z) ∧ P i c
def RPost {σ : Type} (h₀ : Heap) (L : Addr) (Led : σ → List (Addr × Obj)) (ps : σ → List (Str × Value)) (x : Str) (stored : List Str) (m₀ : Str → Option Value) (P : Nat → σ → Prop) (i : Nat) (own : List (Addr × Obj)) (s : Shared) (Q : Flow → Shared → Prop) (f : Flow) (s₂ : Shared) : Prop :=
  match f with
  | .ret v => Q (.ret v) s₂
  | .brk => Q .next s₂
  | _ => REnd h₀ L Led ps x stored m₀ P i own s s₂
theorem rend {σ : Type} {h₀ : Heap} {L : Addr} {Led : σ → List (Addr × Obj)} {ps : σ → List (Str × Value)} {x : Str} {stored : List Str} {m₀ m' : Str → Option Value} {P : Nat → σ → Prop} {i : Nat} {own news' : List (Addr × Obj)} {s : Shared} {h' : Heap} {tk : Nat} (c : σ)
    (F : Fr h₀ L h' m') (N : News h₀ L h' news') (hn : ∀ p ∈ Led c, p ∈ news') (ho : ∀ p ∈ own, p ∈ news') (hoff : OwnOff own ((Led c).map (·.1))) (hk : ∀ p ∈ ps c, m' p.1 = some p.2) (hr : ∀ z, z ≠ x → (∀ p ∈ ps c, z ≠ p.1) → stored.contains z = false → m' z = m₀ z) (hp : P i c) :
    REnd h₀ L Led ps x stored m₀ P i own s { s with heap := h', toks := tk } := ⟨c, h', tk, m', news', rfl, F, N, hn, ho, hoff, hk, hr, hp⟩
section
variable {prog : Program} {w : World} {A : Around} {E : Value → Shared → Prop} {s : Shared} {env : Env} {h₀ : Heap} {x : Str} {body : List Stmt} {Q : Flow → Shared → Prop}
set_option maxHeartbeats 3200000 in
theorem rng {σ : Type} {r : Addr} {a₀ b₀ : Int} {t₀ u₀ v₀ : Tok} {m₀ : Str → Option Value} (n : Nat) (Led : σ → List (Addr × Obj)) (ps : σ → List (Str × Value)) (stored : List Str) (P : Nat → σ → Prop) (c₀ : σ)
    (hh : A.handled = none) (hr : IsRange s.heap r a₀ b₀ 1 t₀ u₀ v₀) (hsmall : Builtin.Range.small a₀ b₀ 1 = true) (hsz : Builtin.Range.rangeSize a₀ b₀ 1 = (n : Int)) (F : Fr h₀ env.locals s.heap m₀) (N : News h₀ env.locals s.heap (Led c₀)) (hk : ∀ p ∈ ps c₀, m₀ p.1 = some p.2) (hp : P 0 c₀)
    (turn : ∀ (c : σ) (i : Nat) t (u : Str → Option Value) h tk own, i < n → OwnOff own ((Led c).map (·.1)) → P i c →
      Fr h₀ env.locals h (fun y => if y = x then some (.int (a₀ + (i : Int)) t) else kstB (fun z => if stored.contains z then u z else m₀ z) (ps c) y) → News h₀ env.locals h (Led c ++ own) →
      wpAny (model prog w) A (execs body env) (RPost h₀ env.locals Led ps x stored m₀ P (i + 1) own { s with heap := h, toks := tk } Q) E { s with heap := h, toks := tk })
    (done : ∀ (c : σ) (u : Str → Option Value) h tk, P n c → Fr h₀ env.locals h (fun y => if y = x then u y else kstB (fun z => if stored.contains z then u z else m₀ z) (ps c) y) → News h₀ env.locals h (Led c) → Q .next { s with heap := h, toks := tk }) :
    wpAny (model prog w) A (pyIter (.ref r)) (fun it s₂ => LoopAtV prog w A h₀ env x body Q E it s₂) E s := by
  refine wpAny_pyIter_range hr hsmall ?_
  have W : Walks prog w A s.heap.objs.size [s.heap.objs.size] [s.heap.objs.size] n (fun i v => i < n ∧ ∃ t, v = .int (a₀ + i * 1) t)
      (fun i h => IsRangeIter h s.heap.objs.size (a₀ + (i : Nat) * 1) ((n : Int) - (i : Nat)) 1) := (Walks.range hh _ a₀ 1 n).bound
  refine kdr_loop (fun i m nx => ∃ c : σ, nx = Led c ∧ (∀ p ∈ ps c, m p.1 = some p.2) ∧ (∀ z, z ≠ x → (∀ p ∈ ps c, z ≠ p.1) → stored.contains z = false → m z = m₀ z) ∧ P i c) W (fun _ h => h) (fun _ h => h) ?_ ?_ ?_ ?_
    (by show IsRangeIter _ _ _ _ _; rw [hsz]; simpa using Heap.get?_push_size _ rfl) (F.push _) (fun p hp => ⟨Heap.get?_push_of_some _ (N p hp).1, (N p hp).2⟩) ⟨c₀, rfl, hk, fun _ _ _ _ => rfl, hp⟩ ?_ ?_
  · intro i h hi b hb
    rw [List.mem_singleton.mp hb]
    exact ⟨_, hi⟩
  · intro hm
    exact absurd F.ns.lt ((List.mem_singleton.mp hm) ▸ Nat.lt_irrefl _)
  · intro b hb
    rw [List.mem_singleton.mp hb]
    exact next_is_new F
  · intro p hp hI
    exact absurd (Heap.lt_size (N p hp).1) ((List.mem_singleton.mp hI) ▸ Nat.lt_irrefl _)
  · rintro i v m₁ nx h tk own hi ⟨_, t, rfl⟩ hoff ⟨c, rfl, h1, h2, hp'⟩ F₁ N₁
    have e1 : a₀ + (i : Int) * 1 = a₀ + (i : Int) := by omega
    rw [e1] at F₁
    refine wpAny_mono (turn c i t m₁ h tk own hi hoff hp' (kst_fr h1 h2 F₁) N₁) (fun f s₂ p => ?_) fun _ _ e => e
    have fin : REnd h₀ env.locals Led ps x stored m₀ P (i + 1) own { s with heap := h, toks := tk } s₂ →
        InvEndG h₀ env.locals (fun m nx => ∃ c : σ, nx = Led c ∧ (∀ p ∈ ps c, m p.1 = some p.2) ∧ (∀ z, z ≠ x → (∀ p ∈ ps c, z ≠ p.1) → stored.contains z = false → m z = m₀ z) ∧ P (i + 1) c) own { s with heap := h, toks := tk } s₂ := by
      rintro ⟨c', h', tk', m', news', e, F', N', hn, ho, hof, hk', hr', hP⟩
      exact ⟨h', tk', m', news', Led c', e, F', N', hn, ho, hof, c', rfl, hk', hr', hP⟩
    cases f with
    | ret v => exact p
    | brk => exact p
    | next => exact fin p
    | cont => exact fin p
  · rintro m₁ nx h tk ⟨c, rfl, h1, h2, hp'⟩ F₁ N₁
    exact done c m₁ h tk hp' (kst_frOut h1 h2 F₁) N₁
end
theorem range_size (n : Nat) : Builtin.Range.rangeSize 0 (n : Int) 1 = (n : Int) := by first | exact rangeSize_nat _ _ | simpa using rangeSize_nat 0 n
end Mine
end
section
open PySem PySem.W PyProof.Rows PySem.Calls PySem.Builtin PySem.Builtin.Str
namespace Mine
def elemL (l : List Nat) : Option (List Nat × List Nat) := if l.getLast? = some 41 then (l.findIdx? (· == 40)).map fun i => (l.take i, (l.drop (i + 1)).dropLast) else none
theorem elem_some {l : List Nat} {i : Nat} (h1 : l.getLast? = some 41) (h2 : l[i]? = some 40) (h3 : ∀ j, j < i → l[j]? ≠ some 40) : elemL l = some (l.take i, (l.drop (i + 1)).dropLast) := by
  have hlt : i < l.length := by
    rcases Nat.lt_or_ge i l.length with h | h
    · exact h
    · rw [List.getElem?_eq_none h] at h2; cases h2
  have e : l.findIdx? (· == 40) = some i := by
    rw [List.findIdx?_eq_some_iff_getElem]
    refine ⟨hlt, ?_, ?_⟩
    · rw [List.getElem?_eq_getElem hlt] at h2
      simpa using h2
    · intro j hj
      have := h3 j hj
      rw [List.getElem?_eq_getElem (by omega)] at this
      simpa using this
  rw [elemL, if_pos h1, e]; rfl
theorem elem_none {l : List Nat} (h : l.getLast? ≠ some 41 ∨ ∀ j : Nat, l[j]? ≠ some 40) : elemL l = none := by
  unfold elemL
  split
  · rcases h with h | h
    · rename_i h1; exact absurd h1 h
    · have : l.findIdx? (· == 40) = none := by
        rw [List.findIdx?_eq_none_iff]
        intro a ha
        obtain ⟨j, hj, rfl⟩ := List.getElem_of_mem ha
        have := h j
        rw [List.getElem?_eq_getElem hj] at this
        simpa using this
      rw [this]; rfl
  · rfl
/-- the pair that an element's name is parted into, as an object -/
def ElemObj (l : List Nat) (o : Obj) : Prop :=
  (∃ p t u, elemL l = some p ∧ o = { cls := .type "tuple", data := .seq #[.str (ofL p.1) t, .str (ofL p.2) u] }) ∨ (∃ t, elemL l = none ∧ o = { cls := .type "tuple", data := .seq #[.str (ofL l) t, .none] })
theorem open_toL : Str.ofString "(" = ofL [40] := by decide +kernel
theorem close_toL : Str.ofString ")" = ofL [41] := by decide +kernel
theorem ends_is {x : Str} {b : Bool} (h : Txt.endswith x (Str.ofString ")") = b) : b = true ↔ (toL x).getLast? = some 41 := by
  have hl := toL_len x
  rw [close_toL] at h
  unfold Txt.endswith at h
  rw [StrLaws.subAt_eq, show (ofL [41]).length = 1 from rfl, show (ofL [41]).cps.toList = [41] from rfl] at h
  rw [← h, Bool.and_eq_true, decide_eq_true_iff, beq_iff_eq, List.getLast?_eq_getElem?]
  show 0 + 1 ≤ x.length ∧ ((toL x).drop (x.length - 1)).take 1 = [41] ↔ _
  rw [← hl]
  constructor
  · rintro ⟨h1, h2⟩
    have := congrArg (·[0]?) h2
    simpa using this
  · intro h1
    have hlt : (toL x).length - 1 < (toL x).length := by
      rcases Nat.lt_or_ge ((toL x).length - 1) (toL x).length with h | h
      · exact h
      · rw [List.getElem?_eq_none h] at h1; cases h1
    refine ⟨by omega, ?_⟩
    rw [List.drop_eq_getElem_cons hlt]
    rw [List.getElem?_eq_getElem hlt] at h1
    simpa using h1
theorem find_open (x : Str) : (Txt.find x (Str.ofString "(") = -1 ∧ ∀ j : Nat, (toL x)[j]? ≠ some 40) ∨
    ∃ k : Nat, Txt.find x (Str.ofString "(") = (k : Int) ∧ k < x.length ∧ (toL x)[k]? = some 40 ∧ ∀ j : Nat, j < k → (toL x)[j]? ≠ some 40 := by
  have hl := toL_len x
  have hf : fromIndex x.length 0 = 0 := rfl
  rw [find_is_find3, open_toL]
  rcases StrLaws.find3_spec x 40 0 with ⟨e, h⟩ | ⟨k, e, _, h2, h3, h4⟩
  · refine .inl ⟨e, fun j hj => ?_⟩
    have hlt : j < (toL x).length := by
      rcases Nat.lt_or_ge j (toL x).length with h | h
      · exact h
      · rw [List.getElem?_eq_none h] at hj; cases hj
    rw [sign_at (by omega)] at hj
    exact h j (by rw [hf]; omega) (by omega) (by simpa using hj)
  · refine .inr ⟨k, e, h2, by rw [sign_at h2, h3], fun j hj hx => ?_⟩
    rw [sign_at (by omega)] at hx
    exact h4 j (by rw [hf]; omega) hj (by simpa using hx)
theorem slice_inner {x : Str} {k : Nat} (h : k + 1 ≤ x.length - 1) (h2 : 1 ≤ x.length) : Txt.slice x (some ((k : Int) + 1)) (some ((x.length : Int) - 1)) = ofL (((toL x).drop (k + 1)).dropLast) := by
  have e1 : ((k : Int) + 1) = ((k + 1 : Nat) : Int) := by omega
  have e2 : ((x.length : Int) - 1) = ((x.length - 1 : Nat) : Int) := by omega
  have hl := toL_len x
  rw [e1, e2, slice_ss h (by omega), List.dropLast_eq_take, List.length_drop, hl, show x.length - 1 - (k + 1) = x.length - (k + 1) - 1 by omega]
theorem slice_inner_neg {x : Str} {k : Nat} (h : k + 1 ≤ x.length - 1) (h2 : 1 ≤ x.length) : Txt.slice x (some ((k : Int) + 1)) (some (-1)) = ofL (((toL x).drop (k + 1)).dropLast) := by
  rw [← slice_inner h h2]
  show StrLaws.sliceText x _ _ = StrLaws.sliceText x _ _
  rw [StrLaws.sliceText_neg_hi x _ (by omega) (by omega), show (-1 : Int) + (x.length : Int) = (x.length : Int) - 1 by omega]
theorem last_is {l : List Nat} {i : Nat} (h : l.getLast? = some 41) (h2 : l[i]? = some 40) : i + 1 ≤ l.length - 1 := by
  have hlt : i < l.length := by
    rcases Nat.lt_or_ge i l.length with h | h
    · exact h
    · rw [List.getElem?_eq_none h] at h2; cases h2
  rw [List.getLast?_eq_getElem?] at h
  rcases Nat.lt_or_ge (i + 1) l.length with h3 | h3
  · omega
  · have : i = l.length - 1 := by omega
    rw [this, h] at h2
    cases h2
theorem split_some {x : Str} (h : Txt.endswith x (Str.ofString ")") = true) (h0 : 0 ≤ Txt.find x (Str.ofString "(")) :
    elemL (toL x) = some ((toL x).take (Txt.find x (Str.ofString "(")).toNat, ((toL x).drop ((Txt.find x (Str.ofString "(")).toNat + 1)).dropLast) ∧
    Txt.slice x none (some (Txt.find x (Str.ofString "("))) = ofL ((toL x).take (Txt.find x (Str.ofString "(")).toNat) ∧
    Txt.slice x (some (Txt.find x (Str.ofString "(") + 1)) (some (-1)) = ofL (((toL x).drop ((Txt.find x (Str.ofString "(")).toNat + 1)).dropLast) := by
  have hl := toL_len x
  have he := (ends_is h).mp rfl
  rcases find_open x with ⟨e, _⟩ | ⟨k, e, hk, h1, h2⟩
  · omega
  · rw [e]
    simp only [Int.toNat_natCast]
    have h3 := last_is he h1
    exact ⟨elem_some he h1 h2, slice_ns (by omega), slice_inner_neg (by omega) (by omega)⟩
theorem split_none {x : Str} (h : Txt.endswith x (Str.ofString ")") = false ∨ ¬ 0 ≤ Txt.find x (Str.ofString "(")) : elemL (toL x) = none := by
  refine elem_none ?_
  rcases h with h | h
  · left
    intro z
    have := (ends_is h).mpr z
    cases this
  · right
    rcases find_open x with ⟨e, h1⟩ | ⟨k, e, _⟩
    · exact h1
    · omega
theorem item_code {x : Str} {c : Nat} {i : Int} {b : Bool} (h0 : 0 ≤ i) (h1 : i < (x.length : Int)) (h : (Txt.item x i == ofL [c]) = b) : b = true ↔ (toL x)[i.toNat]? = some c := by
  rw [item_is h0 h1, ofL_one] at h
  rw [sign_at (by omega), ← h]
  simp
theorem item_last {x : Str} {b : Bool} (h0 : 0 < x.length) (h : (Txt.item x (-1) == Str.ofString ")") = b) : b = true ↔ (toL x).getLast? = some 41 := by
  have hl := toL_len x
  have e : Txt.item x (-1) = ofL [x.cps.getD (x.length - 1) 0] := by
    have hs : x.length - 1 < x.cps.size := by show x.length - 1 < x.length; omega
    have e2 : seqIndex? (-1) x.length = some (x.length - 1) := by
      rw [StrLaws.seqIndex_neg (by omega) (by omega)]
      congr 1
      omega
    unfold Txt.item Txt.charAt
    rw [e2]
    simp [Array.getD, hs]
  rw [e, close_toL, ofL_one] at h
  rw [List.getLast?_eq_getElem?, hl, sign_at (by omega), ← h]
  simp
/-- between the turns of the law's own element -/
def ELI (x : Str) (i : Nat) (b : Str) : Prop := b = ofL ((toL x).take i) ∧ ((toL x).getLast? = some 41 → ∀ j, j < i → (toL x)[j]? ≠ some 40)
theorem ELI.start (x : Str) : ELI x 0 (Str.ofString "") := ⟨(by decide +kernel : Str.ofString "" = ofL []), fun _ j hj => by omega⟩
theorem ELI.len {x : Str} {i : Nat} {b : Str} (I : ELI x i b) (h : x.length ≤ 100) : b.length ≤ 100 := by
  rw [I.1, ofL_len ((toL x).take i), List.length_take]
  have := toL_len x
  omega
theorem take_item {x : Str} {i : Nat} (h : i < x.length) : ofL ((toL x).take i) ++ Txt.item x (i : Int) = ofL ((toL x).take (i + 1)) := by
  rw [item_is (by omega) (by omega)]
  apply toL_inj
  rw [toL_app]
  have e : (toL x)[i]? = some (x.cps.getD i 0) := sign_at h
  show (toL x).take i ++ [x.cps.getD ((i : Int)).toNat 0] = (toL x).take (i + 1)
  rw [List.take_add_one, e]
  simp
theorem ELI.step {x : Str} {i : Nat} {b : Str} (I : ELI x i b) (hi : i < x.length) (h : (Txt.item x (i : Int) == Str.ofString "(") = false ∨ (Txt.item x (-1) == Str.ofString ")") = false) : ELI x (i + 1) (b ++ Txt.item x (i : Int)) := by
  refine ⟨by rw [I.1, take_item hi], fun hl j hj hx => ?_⟩
  by_cases e : j = i
  · subst e
    rcases h with h | h
    · rw [open_toL] at h
      have := (item_code (by omega) (by omega) h).mpr (by simpa using hx)
      cases this
    · have := (item_last (by omega) h).mpr hl
      cases this
  · exact I.2 hl j (by omega) hx
theorem ELI.back {x : Str} {i : Nat} {b : Str} (I : ELI x i b) (hi : i < x.length) (h : (Txt.item x (i : Int) == Str.ofString "(") = true) (h2 : (Txt.item x (-1) == Str.ofString ")") = true) :
    elemL (toL x) = some ((toL x).take i, ((toL x).drop (i + 1)).dropLast) ∧ b = ofL ((toL x).take i) ∧ Txt.slice x (some ((i : Int) + 1)) (some ((x.length : Int) - 1)) = ofL (((toL x).drop (i + 1)).dropLast) := by
  rw [open_toL] at h
  have h1 : (toL x)[i]? = some 40 := by simpa using (item_code (by omega) (by omega) h).mp rfl
  have hl := (item_last (by omega) h2).mp rfl
  have h3 := last_is hl h1
  rw [toL_len] at h3
  exact ⟨elem_some hl h1 (I.2 hl), I.1, slice_inner h3 (by omega)⟩
theorem ELI.done {x : Str} {b : Str} (I : ELI x x.length b) : elemL (toL x) = none := by
  by_cases hl : (toL x).getLast? = some 41
  · refine elem_none (.inr fun j hj => ?_)
    have hlt : j < (toL x).length := by
      rcases Nat.lt_or_ge j (toL x).length with h | h
      · exact h
      · rw [List.getElem?_eq_none h] at hj; cases hj
    rw [toL_len] at hlt
    exact I.2 hl j hlt hj
  · exact elem_none (.inl hl)
theorem off_news {own news : List (Addr × Obj)} (h : OwnOff own (news.map (·.1))) : OwnOff own (news.map (·.1)) := h
theorem mem_left {α : Type} {a b : List α} : ∀ p ∈ a, p ∈ a ++ b := fun _ h => List.mem_append.mpr (.inl h)
theorem mem_right {α : Type} {a b : List α} : ∀ p ∈ b, p ∈ a ++ b := fun _ h => List.mem_append.mpr (.inr h)
end Mine
end
section
open PySem PySem.W PyProof.Rows PySem.Calls PySem.Builtin PySem.Builtin.Str
namespace Mine
section
variable {prog : Program} {w : World} {A : Around} {E : Value → Shared → Prop} {s : Shared} {h₀ : Heap} {L l : Addr} {m : Str → Option Value} {news : List (Addr × Obj)}
theorem app2 {vs : List Value} {n : Nat} {x : Value} {Q : Value → Shared → Prop} (F : Fr h₀ L s.heap m) (N : News h₀ L s.heap ((l, listOf vs.toArray n) :: news)) (hne : ∀ p ∈ news, p.1 ≠ l) (hsz : vs.length ≤ 100000)
    (h : ∀ h', Fr h₀ L h' m → News h₀ L h' ((l, listOf (vs ++ [x]).toArray (n + 1)) :: news) → Q .none { s with heap := h' }) : wpAny (model prog w) A (call (.builtin "list.append") [.ref l, x]) Q E s := by
  refine append_K F N (.head hne) (fun h' F' N' => h h' F' ?_) (by rw [List.size_toArray, PySem.sizeLine_eq]; omega)
  rw [List.push_toArray] at N'
  exact N'
end
theorem ne_led {l : Addr} {o : Obj} {news own : List (Addr × Obj)} (hlt : ∀ p ∈ news, p.1 < l) (hoff : OwnOff own (((l, o) :: news).map (·.1))) : ∀ p ∈ news ++ own, p.1 ≠ l := by
  intro p hp
  rcases List.mem_append.mp hp with hp | hp
  · exact Nat.ne_of_lt (hlt p hp)
  · exact hoff p hp l (by simp)
theorem slice_over {x : Str} {a : Nat} {b : Nat} (hb : x.length ≤ b) : Txt.slice x (some (a : Int)) (some (b : Int)) = Txt.slice x (some (a : Int)) (some (x.length : Int)) := by
  have e : strSliceIndices (some (a : Int)) (some (b : Int)) 1 x.length = strSliceIndices (some (a : Int)) (some (x.length : Int)) 1 x.length := by
    have h1 : ¬ ((b : Int) < 0) := by omega
    have h2 : ¬ ((x.length : Int) < 0) := by omega
    have e1 : max (0 : Int) (min (b : Int) (x.length : Int)) = x.length := by omega
    have e2 : max (0 : Int) (min (x.length : Int) (x.length : Int)) = x.length := by omega
    simp only [strSliceIndices, h1, h2, if_false, e1, e2, show ((1 : Int) > 0) = True from by simp, if_true]
  unfold Txt.slice
  rw [e]
theorem colon_in (y : Str) : (!(occurrences y (Str.ofString ":") 0 y.length 1).isEmpty) = decide (58 ∈ toL y) := by
  rw [colon_toL]
  exact StrLaws.found_one y 58
theorem beside_left {x : Str} {j : Nat} (h : j < x.length) : toL (Txt.slice x (some (if (j : Int) - 1 > 0 then (j : Int) - 1 else 0)) (some (j : Int))) = ((toL x).drop (j - 1)).take (j - (j - 1)) := by
  have e : (if (j : Int) - 1 > 0 then (j : Int) - 1 else 0) = ((j - 1 : Nat) : Int) := by split <;> omega
  rw [e, slice_ss (by omega) (by omega)]
theorem beside_right {x : Str} {j : Nat} (h : j < x.length) : toL (Txt.slice x (some ((j : Int) + 1)) (some ((j : Int) + 2))) = ((toL x).drop (j + 1)).take 1 := by
  have e1 : ((j : Int) + 1) = ((j + 1 : Nat) : Int) := by omega
  have e2 : ((j : Int) + 2) = ((j + 2 : Nat) : Int) := by omega
  have hl := toL_len x
  rw [e1, e2]
  rcases Nat.lt_or_ge x.length (j + 2) with h2 | h2
  · rw [slice_over (by omega), slice_ss (by omega) (Nat.le_refl _)]
    have e3 : (toL x).drop (j + 1) = [] := List.drop_eq_nil_iff.mpr (by omega)
    rw [e3]
    simp
  · rw [slice_ss (by omega) h2]
    simp
theorem mark_yes {x : Str} {j : Nat} (h : j < x.length) (hc : (Txt.item x (j : Int) == Str.ofString ":") = true) :
    (!(occurrences (Txt.slice x (some (if (j : Int) - 1 > 0 then (j : Int) - 1 else 0)) (some (j : Int)) ++ Txt.slice x (some ((j : Int) + 1)) (some ((j : Int) + 2))) (Str.ofString ":") 0
      (Txt.slice x (some (if (j : Int) - 1 > 0 then (j : Int) - 1 else 0)) (some (j : Int)) ++ Txt.slice x (some ((j : Int) + 1)) (some ((j : Int) + 2))).length 1).isEmpty) = mrk (toL x) j := by
  rw [colon_in, toL_app, beside_left h, beside_right h]
  have hj : (toL x)[j]? = some 58 := by simpa using (item_colon (by omega) (by omega) hc).mp rfl
  rw [Bool.eq_iff_iff, decide_eq_true_iff, mrk_iff, List.mem_append]
  have hl := toL_len x
  constructor
  · rintro (q | q)
    · refine ⟨hj, .inl ?_⟩
      have h0 : 0 < j := by
        rcases Nat.eq_zero_or_pos j with e | e
        · subst e; simp at q
        · exact e
      refine ⟨h0, ?_⟩
      have e : j - (j - 1) = 1 := by omega
      rw [e, List.drop_eq_getElem_cons (by omega)] at q
      rw [List.getElem?_eq_getElem (by omega)]
      simpa [eq_comm] using q
    · refine ⟨hj, .inr ?_⟩
      rcases Nat.lt_or_ge (j + 1) (toL x).length with h2 | h2
      · rw [List.drop_eq_getElem_cons h2] at q
        rw [List.getElem?_eq_getElem h2]
        simpa [eq_comm] using q
      · rw [List.drop_eq_nil_iff.mpr h2] at q
        simp at q
  · rintro ⟨_, q | q⟩
    · left
      have e : j - (j - 1) = 1 := by omega
      rw [e, List.drop_eq_getElem_cons (by omega)]
      have q2 := q.2
      rw [List.getElem?_eq_getElem (by omega)] at q2
      simp only [Option.some.injEq] at q2
      simp [q2]
    · right
      have h2 : j + 1 < (toL x).length := by
        rcases Nat.lt_or_ge (j + 1) (toL x).length with h2 | h2
        · exact h2
        · rw [List.getElem?_eq_none h2] at q; cases q
      rw [List.drop_eq_getElem_cons h2]
      rw [List.getElem?_eq_getElem h2] at q
      simp only [Option.some.injEq] at q
      simp [q]
theorem mark_no {x : Str} {j : Nat} (h : j < x.length) (hc : (Txt.item x (j : Int) == Str.ofString ":") = false) : (Txt.item x (j : Int) == Str.ofString ":") = mrk (toL x) j := by
  rw [hc]
  rcases hm : mrk (toL x) j with _ | _
  · rfl
  · have := (mrk_iff.mp hm).1
    have := (item_colon (by omega) (by omega) hc).mpr (by simpa using this)
    cases this
theorem marks_snoc (x : Str) (j : Nat) (b : Bool) (h : b = mrk (toL x) j) : ((List.range j).map fun k => Value.bool (mrk (toL x) k)) ++ [.bool b] = (List.range (j + 1)).map fun k => Value.bool (mrk (toL x) k) := by
  rw [List.range_succ, List.map_append, h]; rfl
end Mine
end
section
open PySem PySem.W PyProof.Rows PySem.Calls PySem.Builtin PySem.Builtin.Str
namespace Mine
section
variable {prog : Program} {w : World} {A : Around} {E : Value → Shared → Prop} {s : Shared} {h₀ : Heap} {L l : Addr} {m : Str → Option Value} {news : List (Addr × Obj)}
theorem marks_item {value slice : Expr} {x : Str} {k : Int} {u : Tok} {Q : Value → Shared → Prop} (hl : s.heap.IsList l ((List.range x.length).map fun k => Value.bool (mrk (toL x) k)).toArray) (h0 : 0 ≤ k) (h1 : k < (x.length : Int)) (hz : x.length ≤ 100)
    (h : Q (.bool (mrk (toL x) k.toNat)) s) (hk : subscripted slice false (.ref l) (.int k u) = operate [.ref l, .int k u] (getItem (.ref l) (.int k u)) := by with_unfolding_all rfl) :
    wpAny (model prog w) A (subscriptTail value slice (.ref l) (.int k u)) Q E s := by
  refine tail_any hl.typeIs slot_list_getitem.lookup (wpAny_getItem_list (x := .bool (mrk (toL x) k.toNat)) hl h0 (by omega) ?_ h) hk
  rw [List.getElem?_toArray, List.getElem?_map, List.getElem?_range (by omega)]
  rfl
theorem set_last0 {items : Array Value} {n : Nat} {t : Tok} {v : Value} {Q : Unit → Shared → Prop} (ho : s.heap.get? l = some (listOf items n)) (hn : 0 < items.size)
    (hQ : Q () { s with heap := s.heap.update l (Obj.mapSeq (·.setIfInBounds (items.size - 1) v)) }) : wpAny (model prog w) A (setItem (.ref l) (.int (-1) t) v) Q E s := by
  have hl : s.heap.IsList l items := PySem.IsL.isList (n := n) ho
  unfold setItem
  try with_reducible refine wpAny_holding ?_
  first | refine wpAny_bind (wpAny_pure ?_) | skip
  refine wpAny_bind (wpAny_sequenceKey hl.typeIs (by decide) ?_)
  refine wpAny_bind (wpAny_callSpecial?_slot (name := Str.ofString "__setitem__") hl.typeIs slot_list_setitem
    (wpAny_call_entry slot_list_setitem hl.typeIs entry_list_setitem ?_ (args_list_setitem _ _ _)))
  show wpAny _ _ (Builtin.List.listSubscript? (.int (-1) t) >>= _) _ _ s
  refine wpAny_bind (wpAny_listSubscript_int (PySem.fitsIndex_neg (by decide) (by decide)) ?_)
  have hidx : seqIndex? (-1) items.size = some (items.size - 1) := by
    rw [PySem.seqIndex_neg (by decide) (by omega)]
    congr 1
    omega
  have hx : items[items.size - 1]? = some items[items.size - 1] := Array.getElem?_eq_getElem (by omega)
  show wpAny _ _ ((Builtin.List.listItems (.ref l) >>= fun xs => pure ((seqIndex? (-1) xs.size).bind fun i => xs[i]?.map (i, ·))) >>= _) _ _ s
  refine wpAny_bind (wpAny_bind ?_)
  show wpAny _ _ (seqItems? (.ref l) >>= _) _ _ s
  refine wpAny_bind (wpAny_seqItems ho rfl (wpAny_pure (wpAny_pure ?_)))
  rw [hidx]
  simp only [Option.bind_some, hx, Option.map_some]
  show wpAny _ _ (setSeqItemAt l (items.size - 1) v >>= _) _ _ s
  refine wpAny_bind (wpAny_setSeqItemAt ho rfl ?_)
  first
    | exact wpAny_bind (wpAny_pure (wpAny_pure ⟨.none, rfl, wpAny_pure hQ⟩))
    | exact wpAny_pure ⟨.none, rfl, wpAny_pure hQ⟩
theorem set_last {vs : List Value} {n : Nat} {t : Tok} {v : Value} {Q : Unit → Shared → Prop} (F : Fr h₀ L s.heap m) (N : News h₀ L s.heap ((l, listOf vs.toArray n) :: news)) (hne : ∀ p ∈ news, p.1 ≠ l) (hv : 0 < vs.length)
    (h : ∀ h', Fr h₀ L h' m → News h₀ L h' ((l, listOf (vs.dropLast ++ [v]).toArray n) :: news) → Q () { s with heap := h' }) : wpAny (model prog w) A (setItem (.ref l) (.int (-1) t) v) Q E s := by
  have z := N (l, listOf vs.toArray n) (.head _)
  refine set_last0 z.1 (by rw [List.size_toArray]; exact hv) (h _ (F.change (Heap.SameBut.update ..) z.2.1 z.2.2) ?_)
  refine ki_turn (pre := []) _ N (fun _ h => nomatch h) hne ?_ ?_
  · apply Array.toList_inj.mp
    rw [List.size_toArray]
    simp only [Array.toList_setIfInBounds, List.toList_toArray]
    rcases List.eq_nil_or_concat vs with e | ⟨a, b, e⟩
    · rw [e] at hv; simp at hv
    · subst e
      simp [List.set_append]
  · have : (vs.dropLast ++ [v]).toArray.size = vs.toArray.size := by
      simp only [List.size_toArray, List.length_append, List.length_dropLast, List.length_cons, List.length_nil]
      omega
    simp [this]
end
end Mine
end
section
open PySem PySem.W PyProof.Rows PySem.Calls PySem.Builtin PySem.Builtin.Str
namespace Mine
/-- between the turns of the law's own cut -/
def CI (x : Str) (i : Nat) (ps : List Str) (fi be : Int) : Prop := ∃ f b : Nat, fi = (f : Int) ∧ be = (b : Int) ∧ CutI (toL x) i (ps.map toL) f b
theorem empty_toL : toL (Str.ofString "") = [] := by decide +kernel
theorem CI.start (x : Str) : CI x 0 [Str.ofString ""] 0 0 := ⟨0, 0, rfl, rfl, by
  have := CutI.start (toL x)
  rw [List.map_cons, List.map_nil, empty_toL]
  exact this⟩
theorem CI.last {x : Str} {i : Nat} {ps : List Str} {fi be : Int} (I : CI x i ps fi be) : ∃ pre y, ps = pre ++ [y] ∧ y.length ≤ x.length ∧ ps.length ≤ x.length + 1 := by
  obtain ⟨f, b, _, _, I⟩ := I
  obtain ⟨pre, e, hp⟩ := I.parts
  rcases List.eq_nil_or_concat ps with h | ⟨qs, y, h⟩
  · rw [h] at e; simp at e
  · rw [List.concat_eq_append] at h
    subst h
    refine ⟨qs, y, rfl, ?_, ?_⟩
    · rw [List.map_append] at e
      have := (List.append_inj' e rfl).2
      simp only [List.map_cons, List.map_nil, List.cons.injEq, and_true] at this
      have h2 := congrArg List.length this
      rw [toL_len, List.length_drop, List.length_take] at h2
      have := toL_len x
      omega
    · have h1 := congrArg List.length e
      have h2 := congrArg List.length hp
      have h3 := (parts_sum (toL x)).2
      have h4 := toL_len x
      have h5 : (seg (if i = 0 then dc (toL x) else runAt (toL x) i) (((toL x).take i).drop b) ((toL x).drop i)).length ≠ 0 := fun z => seg_ne _ _ _ (List.length_eq_zero_iff.mp z)
      simp only [List.length_map, List.length_append, List.length_cons, List.length_nil] at h1 h2 ⊢
      omega
theorem item_toL {x : Str} {i : Nat} (h : i < x.length) (h' : i < (toL x).length) : toL (Txt.item x (i : Int)) = [(toL x)[i]] := by
  rw [item_is (by omega) (by omega)]
  have e : (toL x)[i]? = some (x.cps.getD i 0) := sign_at h
  rw [List.getElem?_eq_getElem h'] at e
  simp only [Option.some.injEq] at e
  rw [e]; rfl
theorem CI.plain {x : Str} {i : Nat} {pre : List Str} {y : Str} {fi be : Int} (I : CI x i (pre ++ [y]) fi be) (h : i < x.length) (hm : mrk (toL x) ((i : Int)).toNat = false) : CI x (i + 1) (pre ++ [y ++ Txt.item x (i : Int)]) fi be := by
  obtain ⟨f, b, e1, e2, I⟩ := I
  have h' : i < (toL x).length := by rw [toL_len]; exact h
  rw [List.map_append] at I
  have := I.plain h' (by simpa using hm)
  refine ⟨f, b, e1, e2, ?_⟩
  rw [List.map_append, List.map_cons, List.map_nil, toL_app, item_toL h h']
  exact this
theorem CI.begin0 {x : Str} {i : Nat} {ps : List Str} {fi be : Int} (I : CI x i ps fi be) (h : i < x.length) (hi : (i : Int) = 0) (hm : mrk (toL x) ((i : Int)).toNat = true) : CI x (i + 1) ps (i : Int) ((i : Int) + 1) := by
  obtain ⟨f, b, e1, e2, I⟩ := I
  have : i = 0 := by omega
  subst this
  exact ⟨0, 1, rfl, rfl, I.begin0 (by rw [toL_len]; exact h) (by simpa using hm)⟩
theorem runAt_of {l : List Nat} {i : Nat} (h0 : (i : Int) ≠ 0) {b : Bool} (h : mrk l ((i : Int) - 1).toNat = b) : runAt l i = b := by
  obtain ⟨j, rfl⟩ : ∃ j, i = j + 1 := ⟨i - 1, by omega⟩
  have : (((j + 1 : Nat) : Int) - 1).toNat = j := by omega
  rw [this] at h
  exact h
theorem CI.go {x : Str} {i : Nat} {ps : List Str} {fi be : Int} (I : CI x i ps fi be) (h : i < x.length) (hi : (i : Int) ≠ 0) (hm : mrk (toL x) ((i : Int)).toNat = true) (hr : mrk (toL x) ((i : Int) - 1).toNat = true) : CI x (i + 1) ps fi ((i : Int) + 1) := by
  obtain ⟨f, b, e1, e2, I⟩ := I
  exact ⟨f, i + 1, e1, by omega, I.go (by rw [toL_len]; exact h) (by simpa using hm) (runAt_of hi hr)⟩
theorem CI.begin1 {x : Str} {i : Nat} {ps : List Str} {fi be : Int} (I : CI x i ps fi be) (h : i < x.length) (hi : (i : Int) ≠ 0) (hm : mrk (toL x) ((i : Int)).toNat = true) (hr : mrk (toL x) ((i : Int) - 1).toNat = false) : CI x (i + 1) (ps ++ [Str.ofString ""]) (i : Int) ((i : Int) + 1) := by
  obtain ⟨f, b, e1, e2, I⟩ := I
  refine ⟨i, i + 1, rfl, by omega, ?_⟩
  rw [List.map_append, List.map_cons, List.map_nil, empty_toL]
  exact I.begin1 (by rw [toL_len]; exact h) (by omega) (by simpa using hm) (runAt_of hi hr)
theorem map_ofL (ps : List Str) : (ps.map toL).map ofL = ps := by
  rw [List.map_map]
  have : (ofL ∘ toL) = _root_.id := funext ofL_toL
  rw [this, List.map_id]
theorem CI.bounds {x : Str} {i : Nat} {ps : List Str} {fi be : Int} (I : CI x i ps fi be) : 0 ≤ fi ∧ fi ≤ (x.length : Int) ∧ 0 ≤ be ∧ be ≤ (x.length : Int) := by
  obtain ⟨f, b, rfl, rfl, I⟩ := I
  have := I.hb
  have := I.hk
  have := I.hf
  have := toL_len x
  omega
theorem CI.done {x : Str} {ps : List Str} {fi be : Int} (I : CI x x.length ps fi be) : ps = (partsL (toL x)).map ofL ∧ Txt.slice x none (some fi) = ofL (qualL (toL x)) ∧ Txt.slice x (some be) none = ofL (lastP (toL x)) := by
  obtain ⟨f, b, rfl, rfl, I⟩ := I
  rw [← toL_len] at I
  have d := I.done
  have h1 := I.hb
  have h2 := I.hf
  have h3 := toL_len x
  refine ⟨?_, ?_, ?_⟩
  · rw [← d.1, map_ofL]
  · rw [slice_ns (by omega), d.2.1]
  · rw [slice_sn (by omega), d.2.2.1]
theorem strs_dropLast {vs : List Value} {ps : List Str} {y : Str} (h : StrsAre vs (ps ++ [y])) : StrsAre vs.dropLast ps := by
  induction ps generalizing vs with
  | nil =>
    cases h with
    | cons _ _ r => cases r; exact .nil
  | cons p ps ih =>
    cases h with
    | cons _ t r =>
      have hl := StrsAre.length r
      rw [List.dropLast_cons_of_ne_nil (by rintro rfl; simp at hl)]
      exact .cons p t (ih r)
end Mine
end
section
open PySem PySem.W PyProof.Rows PySem.Calls PySem.Builtin PySem.Builtin.Str
namespace Mine
theorem pick_upto (vs : List Value) (k : Nat) : (slicePick vs.toArray none (some (k : Int)) none).toList = vs.take k := by rw [slicePick_upto']
theorem pick_from (vs : List Value) (k : Nat) : (slicePick vs.toArray (some (k : Int)) none none).toList = vs.drop k := by rw [slicePick_from']
theorem pick_butLast (vs : List Value) : (slicePick vs.toArray none (some (-1 : Int)) none).toList = vs.dropLast := by
  rw [show (-1 : Int) = -((1 : Nat) : Int) from rfl, slicePick_butLast _ 1 (Nat.le_refl _), List.dropLast_eq_take]
  simp
theorem first_mark (x : Str) : (slicePick ((List.range x.length).map fun k => Value.bool (mrk (toL x) k)).toArray none (some (1 : Int)) none).toList = ((((List.range x.length).map fun k => mrk (toL x) k).take 1).map Value.bool) := by
  have := pick_upto ((List.range x.length).map fun k => Value.bool (mrk (toL x) k)) 1
  rw [show (1 : Int) = ((1 : Nat) : Int) from rfl, this, ← List.map_take, ← List.map_take, List.map_map]
  rfl
theorem first_is (x : Str) : decide (((List.range x.length).map fun k => mrk (toL x) k).take 1 = [true]) = dc (toL x) := by
  have hl := toL_len x
  rcases h : toL x with _ | ⟨c, r⟩
  · rw [h] at hl
    have : x.length = 0 := by simpa using hl.symm
    rw [this]; rfl
  · rw [h] at hl
    obtain ⟨n, hn⟩ : ∃ n, x.length = n + 1 := ⟨r.length, by simpa using hl.symm⟩
    rw [hn, List.range_succ_eq_map]
    simp only [List.map_cons, List.take_succ_cons, List.take_zero]
    rw [Bool.eq_iff_iff, decide_eq_true_iff, dc_cons]
    simp only [List.cons.injEq, and_true, mrk_iff]
    simp
section
variable {prog : Program} {w : World} {A : Around} {E : Value → Shared → Prop} {s : Shared} {h₀ : Heap} {L l : Addr} {m : Str → Option Value} {news : List (Addr × Obj)}
theorem news_pick {h : Heap} {a b c d e : Addr × Obj} (N : News h₀ L h (a :: b :: c :: d :: e :: news)) : News h₀ L h (a :: d :: news) := fun p hp => N p (by
  rcases List.mem_cons.mp hp with rfl | hp
  · exact .head _
  rcases List.mem_cons.mp hp with rfl | hp
  · exact .tail _ (.tail _ (.tail _ (.head _)))
  · exact .tail _ (.tail _ (.tail _ (.tail _ (.tail _ hp)))))
theorem bools_reads (h : Heap) : ∀ bs : List Bool, ReadsAll h (bs.map Value.bool) (bs.map PyData.bool) []
  | [] => .nil
  | b :: r => .cons (.bool b) (bools_reads h r)
theorem bools_lay : ∀ bs : List Bool, PyData.canLayAll0 (bs.map PyData.bool) = true
  | [] => rfl
  | b :: r => by simp [PyData.canLayAll0, PyData.canLay0, bools_lay r]
theorem bools_depth : ∀ bs : List Bool, PyData.depthAll (bs.map PyData.bool) = 0
  | [] => rfl
  | b :: r => by simp [PyData.depthAll, PyData.depth, bools_depth r]
theorem bools_eqv : ∀ bs cs : List Bool, PyData.eqvAll (bs.map PyData.bool) (cs.map PyData.bool) = decide (bs = cs)
  | [], [] => by simp [PyData.eqvAll]
  | [], _ :: _ => by simp [PyData.eqvAll]
  | _ :: _, [] => by simp [PyData.eqvAll]
  | a :: r, b :: t => by
    simp only [List.map_cons, PyData.eqvAll, PyData.eqv, bools_eqv r t]
    by_cases h : a = b <;> by_cases h' : r = t <;> simp [h, h']
theorem bools_eq {a b : Addr} {bs cs : List Bool} {Q : Value → Shared → Prop} (ha : s.heap.IsList a (bs.map Value.bool).toArray) (hb : s.heap.IsList b (cs.map Value.bool).toArray) (hu : A.units + 64 < cLine) (h : Q (.bool (decide (bs = cs))) s) :
    wpAny (model prog w) A (compareOp .Eq (.ref a) (.ref b)) Q E s := by
  obtain ⟨oa, h1, h2, _, h3⟩ := ha
  obtain ⟨ob, k1, k2, _, k3⟩ := hb
  have sh : ∀ ds : List Bool, SeqAt.shaped (.list (ds.map PyData.bool)) = true := fun ds => by
    simp [SeqAt.shaped, PyData.canLay0, PyData.depth, bools_lay, bools_depth]
  refine eq_dataH (reads_list_at h1 h2 h3 (by simpa using bools_reads s.heap bs)) (reads_list_at k1 k2 k3 (by simpa using bools_reads s.heap cs)) (sh bs) (sh cs) hu ?_
  rw [PyData.eqv, bools_eqv]
  exact h
end
end Mine
end
section
open PySem PySem.W PyProof.Rows PySem.Calls PySem.Builtin PySem.Builtin.Str
namespace Mine
def okL (l : List Nat) : Prop := ∀ c ∈ l, c < 128
theorem okL.str {l : List Nat} (h : okL l) : PyData.strOk (ofL l) = true := by
  unfold PyData.strOk
  rw [Array.all_eq_true']
  intro c hc
  have : c ∈ l := by simpa [ofL] using hc
  have := h c this
  simp only [decide_eq_true_eq]
  omega
theorem seg_mem {b : Bool} {acc l : List Nat} : ∀ e ∈ seg b acc l, ∀ c ∈ e, c ∈ acc ∨ c ∈ l := by
  induction l generalizing b acc with
  | nil => intro e he c hc; cases b <;> (simp [seg] at he; subst he; exact .inl hc)
  | cons d r ih =>
    intro e he c hc
    cases b <;> simp only [seg] at he <;> split at he
    · rcases List.mem_cons.mp he with rfl | he
      · exact .inl hc
      · rcases ih e he c hc with h | h
        · cases h
        · exact .inr (.tail _ h)
    · rcases ih e he c hc with h | h
      · rcases List.mem_append.mp h with h | h
        · exact .inl h
        · rw [List.mem_singleton.mp h]; exact .inr (.head _)
      · exact .inr (.tail _ h)
    · rcases ih e he c hc with h | h
      · exact .inl h
      · exact .inr (.tail _ h)
    · rcases ih e he c hc with h | h
      · rcases List.mem_append.mp h with h | h
        · exact .inl h
        · rw [List.mem_singleton.mp h]; exact .inr (.head _)
      · exact .inr (.tail _ h)
theorem okL.parts {l : List Nat} (h : okL l) : ∀ e ∈ partsL l, okL e := fun e he c hc => by
  rcases seg_mem e he c hc with q | q
  · cases q
  · exact h c q
theorem okL.take {l : List Nat} (h : okL l) (k : Nat) : okL (l.take k) := fun c hc => h c (List.mem_of_mem_take hc)
theorem okL.drop {l : List Nat} (h : okL l) (k : Nat) : okL (l.drop k) := fun c hc => h c (List.mem_of_mem_drop hc)
theorem okL.qual {l : List Nat} (h : okL l) : okL (qualL l) := h.take _
theorem lastP_mem (l : List Nat) : lastP l ∈ partsL l := by
  have hne : partsL l ≠ [] := seg_ne _ _ _
  rw [lastP, List.getLastD_eq_getLast?, List.getLast?_eq_some_getLast hne]
  exact List.getLast_mem hne
theorem okL.last {l : List Nat} (h : okL l) : okL (lastP l) := h.parts _ (lastP_mem l)
theorem strs_reads (h : Heap) : ∀ {vs : List Value} {ps : List Str}, StrsAre vs ps → ReadsAll h vs (ps.map PyData.str) []
  | _, _, .nil => .nil
  | _, _, .cons y t r => .cons (.str y t) (strs_reads h r)
theorem strs_lay : ∀ ps : List Str, (∀ p ∈ ps, PyData.strOk p = true) → PyData.canLayAll0 (ps.map PyData.str) = true
  | [], _ => rfl
  | p :: r, h => by simp [PyData.canLayAll0, PyData.canLay0, h p (.head _), strs_lay r fun q hq => h q (.tail _ hq)]
theorem strs_depth : ∀ ps : List Str, PyData.depthAll (ps.map PyData.str) = 0
  | [] => rfl
  | p :: r => by simp [PyData.depthAll, PyData.depth, strs_depth r]
theorem strs_eqv : ∀ ps : List Str, PyData.eqvAll (ps.map PyData.str) (ps.map PyData.str) = true
  | [] => rfl
  | p :: r => by simp [PyData.eqvAll, PyData.eqv, strs_eqv r]
theorem parts_ok {l : List Nat} (h : okL l) : ∀ p ∈ (partsL l).map ofL, PyData.strOk p = true := fun p hp => by
  obtain ⟨e, he, rfl⟩ := List.mem_map.mp hp
  exact (h.parts e he).str
section
variable {prog : Program} {w : World} {A : Around} {E : Value → Shared → Prop} {s : Shared} {h₀ : Heap} {L a b : Addr} {m : Str → Option Value} {news : List (Addr × Obj)}
/-- a list of texts and a bool, in a tuple -/
theorem pair_reads {l : Addr} {vs : List Value} {ps : List Str} {n : Nat} {q : Bool} (N : News h₀ L s.heap news) (ha : (a, ({ cls := .type "tuple", data := .seq #[.ref l, .bool q] } : Obj)) ∈ news) (hl : (l, listOf vs.toArray n) ∈ news) (hs : StrsAre vs ps) :
    Reads s.heap (.ref a) (.tuple [.list (ps.map PyData.str), .bool q]) [l] :=
  reads_tuple_at (N _ ha).1 rfl rfl (.cons (reads_list_at (N _ hl).1 rfl rfl (by simpa using strs_reads s.heap hs)) (.cons (.bool q) .nil))
theorem pair_ne {l k : Addr} {vs ws : List Value} {ps : List Str} {n o : Nat} {q : Bool} {Q : Value → Shared → Prop} (N : News h₀ L s.heap news) (ha : (a, ({ cls := .type "tuple", data := .seq #[.ref l, .bool q] } : Obj)) ∈ news) (hl : (l, listOf vs.toArray n) ∈ news) (hs : StrsAre vs ps)
    (hb : (b, ({ cls := .type "tuple", data := .seq #[.ref k, .bool q] } : Obj)) ∈ news) (hk : (k, listOf ws.toArray o) ∈ news) (ht : StrsAre ws ps) (ok : ∀ p ∈ ps, PyData.strOk p = true) (hu : A.units + 64 < cLine)
    (h : Q (.bool false) s) : wpAny (model prog w) A (compareOp .NotEq (.ref a) (.ref b)) Q E s := by
  have sh : SeqAt.shaped (.tuple [.list (ps.map PyData.str), .bool q]) = true := by
    simp [SeqAt.shaped, PyData.canLay0, PyData.canLayAll0, PyData.depth, PyData.depthAll, strs_lay ps ok, strs_depth]
  refine ne_dataH (pair_reads N ha hl hs) (pair_reads N hb hk ht) sh sh hu ?_
  simp only [PyData.eqv, PyData.eqvAll, strs_eqv, beq_self_eq_true, Bool.and_true, Bool.not_true]
  exact h
theorem two_reads {x y : Str} {t u : Tok} (N : News h₀ L s.heap news) (ha : (a, ({ cls := .type "tuple", data := .seq #[.str x t, .str y u] } : Obj)) ∈ news) : Reads s.heap (.ref a) (.tuple [.str x, .str y]) [] :=
  reads_tuple_at (N _ ha).1 rfl rfl (.cons (.str x t) (.cons (.str y u) .nil))
theorem two_eq {x y : Str} {t u t' u' : Tok} {Q : Value → Shared → Prop} (N : News h₀ L s.heap news) (ha : (a, ({ cls := .type "tuple", data := .seq #[.str x t, .str y u] } : Obj)) ∈ news)
    (hb : (b, ({ cls := .type "tuple", data := .seq #[.str x t', .str y u'] } : Obj)) ∈ news) (okx : PyData.strOk x = true) (oky : PyData.strOk y = true) (hu : A.units + 64 < cLine)
    (h : Q (.bool true) s) : wpAny (model prog w) A (compareOp .Eq (.ref a) (.ref b)) Q E s := by
  have sh : SeqAt.shaped (.tuple [.str x, .str y]) = true := by
    simp [SeqAt.shaped, PyData.canLay0, PyData.canLayAll0, PyData.depth, PyData.depthAll, okx, oky]
  refine eq_dataH (two_reads N ha) (two_reads N hb) sh sh hu ?_
  simp only [PyData.eqv, PyData.eqvAll, beq_self_eq_true, Bool.and_true]
  exact h
end
end Mine
end
section
open PySem PySem.W PyProof.Rows PySem.Calls PySem.Builtin PySem.Builtin.Str
namespace Mine
section
variable {prog : Program} {w : World} {A : Around} {E : Value → Shared → Prop} {s : Shared} {h₀ : Heap} {L a b : Addr} {m : Str → Option Value} {news : List (Addr × Obj)}
theorem cat_lists {vs ws : List Value} {Q : Value → Shared → Prop} (F : Fr h₀ L s.heap m) (N : News h₀ L s.heap news) (ha : s.heap.IsList a vs.toArray) (hb : s.heap.IsList b ws.toArray) (hz : vs.length + ws.length ≤ 100000)
    (h : ∀ D h', Fr h₀ L h' m → News h₀ L h' ((D, listOf (vs ++ ws).toArray 0) :: news) → (∀ p ∈ news, p.1 < D) → Q (.ref D) { s with heap := h' }) : wpAny (model prog w) A (binaryOp .Add (.ref a) (.ref b)) Q E s := by
  refine add_arrays F N ha hb (fun h' F' N' => h _ h' F' ?_ fun p hp => Heap.lt_size (N p hp).1) (by rw [List.size_toArray, List.size_toArray, PySem.sizeLine_eq]; omega)
  simpa using N'
end
theorem lt_off {l : Addr} {o : Obj} {news own : List (Addr × Obj)} (hoff : OwnOff own (((l, o) :: news).map (·.1))) {D : Addr} {o' : Obj} (h : ∀ p ∈ own, p.1 < D) : OwnOff own (((D, o') :: news).map (·.1)) := by
  intro p hp b hb
  rcases List.mem_cons.mp hb with rfl | hb
  · exact Nat.ne_of_lt (h p hp)
  · exact hoff p hp b (by simp only [List.map_cons, List.mem_cons]; exact .inr hb)
theorem sub3 {q b c : Addr × Obj} {news own : List (Addr × Obj)} : ∀ p ∈ q :: news, p ∈ q :: b :: c :: (news ++ own) := fun p hp => by
  rcases List.mem_cons.mp hp with rfl | hp
  · exact .head _
  · exact .tail _ (.tail _ (.tail _ (mem_left _ hp)))
theorem occ_cc {x : Str} {b : Bool} (h : (occurrences x (Str.ofString "::") 0 x.length 1).isEmpty = b) : hasDC (toL x) = !b := by
  rw [← contains_cc, Txt.contains, h]
end Mine
end
section
open PySem PySem.W PyProof.Rows PySem.Calls PySem.Builtin PySem.Builtin.Str
namespace Mine
def fixedL : List Str := [Str.ofString "a:::b::", Str.ofString "::a::b", Str.ofString "", Str.ofString "::", Str.ofString ":a::b:", Str.ofString "a:b", Str.ofString ":::a (b)", Str.ofString "b::::a::(", Str.ofString "a (b:)", Str.ofString "::a:", Str.ofString ":", Str.ofString "():: )"]
theorem fixed_all : fixedL.all (fun y => decide (y.length ≤ 12) && (toL y).all (fun c => decide (c < 128))) = true := by decide +kernel
theorem fixed_get {k : Int} (h0 : 0 ≤ k) (h1 : k < 12) : ∃ y, fixedL[k.toNat]? = some y ∧ y.length ≤ 12 ∧ okL (toL y) := by
  have hlt : k.toNat < fixedL.length := by show k.toNat < 12; omega
  refine ⟨fixedL[k.toNat], List.getElem?_eq_getElem hlt, ?_⟩
  have := List.all_eq_true.mp fixed_all _ (List.getElem_mem hlt)
  simp only [Bool.and_eq_true, decide_eq_true_eq, List.all_eq_true] at this
  exact ⟨this.1, fun c hc => this.2 c hc⟩
theorem menu_all : ∀ j : Nat, j < 8 → (toL (Txt.item (Str.ofString "a:b(: ):") (j : Int))).all (fun c => decide (c < 128)) = true := by decide +kernel
theorem menu_ok (num : Int) : okL (toL (Txt.item (Str.ofString "a:b(: ):") (num.fmod 8))) := by
  have h0 : 0 ≤ num.fmod 8 := Int.fmod_nonneg_of_pos _ (by decide)
  have h1 : num.fmod 8 < 8 := Int.fmod_lt_of_pos _ (by decide)
  obtain ⟨j, hj⟩ := Int.eq_ofNat_of_zero_le h0
  rw [hj]
  have := menu_all j (by omega)
  intro c hc
  simpa using List.all_eq_true.mp this c hc
theorem okL.app {x y : Str} (h : okL (toL x)) (k : okL (toL y)) : okL (toL (x ++ y)) := by
  rw [toL_app]
  intro c hc
  rcases List.mem_append.mp hc with q | q
  · exact h c q
  · exact k c q
end Mine
end
section
open PySem PySem.W PyProof.Rows PySem.Calls PySem.Builtin PySem.Builtin.Str
namespace Mine
section
variable {prog : Program} {w : World} {A : Around} {E : Value → Shared → Prop} {s : Shared} {h₀ : Heap} {L a b : Addr} {m : Str → Option Value} {news : List (Addr × Obj)}
/-- a list of texts and a text, in a tuple -/
theorem pairS_reads {l : Addr} {vs : List Value} {ps : List Str} {n : Nat} {y : Str} {t : Tok} (N : News h₀ L s.heap news) (ha : (a, ({ cls := .type "tuple", data := .seq #[.ref l, .str y t] } : Obj)) ∈ news) (hl : (l, listOf vs.toArray n) ∈ news) (hs : StrsAre vs ps) :
    Reads s.heap (.ref a) (.tuple [.list (ps.map PyData.str), .str y]) [l] :=
  reads_tuple_at (N _ ha).1 rfl rfl (.cons (reads_list_at (N _ hl).1 rfl rfl (by simpa using strs_reads s.heap hs)) (.cons (.str y t) .nil))
theorem pairS_ne {l k : Addr} {vs ws : List Value} {ps qs : List Str} {n o : Nat} {y z : Str} {t u : Tok} {Q : Value → Shared → Prop} (N : News h₀ L s.heap news) (ha : (a, ({ cls := .type "tuple", data := .seq #[.ref l, .str y t] } : Obj)) ∈ news) (hl : (l, listOf vs.toArray n) ∈ news) (hs : StrsAre vs ps)
    (hb : (b, ({ cls := .type "tuple", data := .seq #[.ref k, .str z u] } : Obj)) ∈ news) (hk : (k, listOf ws.toArray o) ∈ news) (ht : StrsAre ws qs) (e : ps = qs ∧ y = z) (ok : (∀ p ∈ qs, PyData.strOk p = true) ∧ PyData.strOk z = true) (hu : A.units + 64 < cLine)
    (h : Q (.bool false) s) : wpAny (model prog w) A (compareOp .NotEq (.ref a) (.ref b)) Q E s := by
  obtain ⟨rfl, rfl⟩ := e
  have sh : SeqAt.shaped (.tuple [.list (ps.map PyData.str), .str y]) = true := by
    simp [SeqAt.shaped, PyData.canLay0, PyData.canLayAll0, PyData.depth, PyData.depthAll, strs_lay ps ok.1, strs_depth, ok.2]
  refine ne_dataH (pairS_reads N ha hl hs) (pairS_reads N hb hk ht) sh sh hu ?_
  simp only [PyData.eqv, PyData.eqvAll, strs_eqv, beq_self_eq_true, Bool.and_true, Bool.not_true]
  exact h
theorem ne_same {x y : Str} {t u : Tok} {Q : Value → Shared → Prop} (e : x = y) (h : Q (.bool false) s) : wpAny (model prog w) A (compareOp .NotEq (.str x t) (.str y u)) Q E s := by
  subst e
  refine ne_str ?_
  rw [bne_self_eq_false]
  exact h
/-- what split_element gives, as data -/
def elemD (l : List Nat) : PyData := match elemL l with
  | some p => .tuple [.str (ofL p.1), .str (ofL p.2)]
  | none => .tuple [.str (ofL l), .none]
theorem elem_reads {l : List Nat} {o : Obj} (N : News h₀ L s.heap news) (ha : (a, o) ∈ news) (ho : ElemObj l o) : Reads s.heap (.ref a) (elemD l) [] := by
  rcases ho with ⟨p, t, u, e, rfl⟩ | ⟨t, e, rfl⟩
  · unfold elemD
    rw [e]
    exact reads_tuple_at (N _ ha).1 rfl rfl (.cons (.str _ t) (.cons (.str _ u) .nil))
  · unfold elemD
    rw [e]
    exact reads_tuple_at (N _ ha).1 rfl rfl (.cons (.str _ t) (.cons .none .nil))
theorem elem_ok {l : List Nat} (h : okL l) {p : List Nat × List Nat} (e : elemL l = some p) : okL p.1 ∧ okL p.2 := by
  unfold elemL at e
  split at e
  · obtain ⟨i, _, rfl⟩ := Option.map_eq_some_iff.mp e
    refine ⟨h.take i, fun c hc => ?_⟩
    exact h.drop (i + 1) c (List.dropLast_subset _ hc)
  · cases e
theorem elem_shaped {l : List Nat} (h : okL l) : SeqAt.shaped (elemD l) = true := by
  unfold elemD
  cases e : elemL l with
  | none => simp [SeqAt.shaped, PyData.canLay0, PyData.canLayAll0, PyData.depth, PyData.depthAll, h.str]
  | some p =>
    have q := elem_ok h e
    simp [SeqAt.shaped, PyData.canLay0, PyData.canLayAll0, PyData.depth, PyData.depthAll, q.1.str, q.2.str]
theorem elem_eqv (l : List Nat) : PyData.eqv (elemD l) (elemD l) = true := by
  unfold elemD
  cases elemL l <;> simp [PyData.eqv, PyData.eqvAll]
theorem elem_ne {l : List Nat} {o o' : Obj} {Q : Value → Shared → Prop} (N : News h₀ L s.heap news) (ha : (a, o) ∈ news) (ho : ElemObj l o) (hb : (b, o') ∈ news) (ho' : ElemObj l o') (ok : okL l) (hu : A.units + 64 < cLine)
    (h : Q (.bool false) s) : wpAny (model prog w) A (compareOp .NotEq (.ref a) (.ref b)) Q E s := by
  refine ne_dataH (elem_reads N ha ho) (elem_reads N hb ho') (elem_shaped ok) (elem_shaped ok) hu ?_
  rw [elem_eqv]
  exact h
end
/-! the chain, the texts that the law glues -/
theorem nil_toL {x : Str} (h : toL x = []) : x = Str.ofString "" := toL_inj (by rw [h, empty_toL])
theorem chain_abs {x : Str} {ts : List Str} {rest : Str} (I : ChainI (toL x) 12 (ts.map toL) (toL rest)) (h : dc (toL x) = true) : ts = (partsL (toL x)).map ofL ∧ rest = Str.ofString "" := by
  have q := I.done.1 h
  exact ⟨by rw [← q.1, map_ofL], nil_toL q.2⟩
theorem chain_rel {x : Str} {ts : List Str} {rest : Str} (I : ChainI (toL x) 12 (ts.map toL) (toL rest)) (h : dc (toL x) = false) : ts = ((partsL (toL x)).map ofL).drop 1 ∧ ((partsL (toL x)).map ofL)[(0 : Int).toNat]? = some rest := by
  have q := I.done.2 h
  refine ⟨?_, ?_⟩
  · rw [← map_ofL ts, q.1, ← List.map_drop, List.drop_one]
  · show ((partsL (toL x)).map ofL)[0]? = some rest
    rw [List.getElem?_map, q.2]
    show some (ofL (toL rest)) = some rest
    rw [ofL_toL]
theorem part_ok {l : List Nat} (h : okL l) {y : Str} (hy : y ∈ (partsL l).map ofL) : PyData.strOk y = true := parts_ok h y hy
theorem rest_ok {l : List Nat} (h : okL l) {y : Str} (hy : ((partsL l).map ofL)[(0 : Int).toNat]? = some y) : PyData.strOk y = true := parts_ok h y (List.mem_of_getElem? hy)
theorem drop_ok {l : List Nat} (h : okL l) : ∀ p ∈ ((partsL l).map ofL).drop 1, PyData.strOk p = true := fun p hp => parts_ok h p (List.mem_of_mem_drop hp)
theorem strs_drop : ∀ {vs : List Value} {ps : List Str}, StrsAre vs ps → StrsAre (vs.drop 1) (ps.drop 1)
  | _, _, .nil => .nil
  | _, _, .cons _ _ r => r
theorem strs_butLast {vs : List Value} {ps : List Str} (h : StrsAre vs ps) : StrsAre vs.dropLast ps.dropLast := by
  rcases List.eq_nil_or_concat ps with e | ⟨qs, y, e⟩
  · subst e; cases h; exact .nil
  · rw [List.concat_eq_append] at e
    subst e
    rw [List.dropLast_concat]
    exact strs_dropLast h
theorem toL_join (sep : Str) : ∀ l : List Str, toL (Txt.join sep l) = (toL sep).intercalate (l.map toL) := by
  intro l
  show toL (Builtin.Str.glued sep l) = _
  rw [StrLaws.glued_eq_join]
  induction l with
  | nil => rfl
  | cons a r ih =>
    cases r with
    | nil =>
      show toL a = _
      simp [List.intercalate]
    | cons b r =>
      show toL (a ++ sep ++ Str.join sep (b :: r)) = _
      rw [toL_app, toL_app, ih]
      simp [List.intercalate, List.append_assoc]
/-- the whole name: two colons ahead of each part -/
def wholeL (ps : List (List Nat)) : List Nat := (ps.map fun p => 58 :: 58 :: p).flatten
theorem inter_nil (l : List (List Nat)) : ([] : List Nat).intercalate l = l.flatten := by
  induction l with
  | nil => rfl
  | cons a r ih =>
    cases r with
    | nil => simp [List.intercalate]
    | cons b r =>
      simp only [List.intercalate, List.intersperse_cons_cons] at ih ⊢
      simp only [List.flatten_cons, List.nil_append] at ih ⊢
      rw [ih]
theorem inter_cc (a : List Nat) (r : List (List Nat)) : 58 :: 58 :: ([58, 58] : List Nat).intercalate (a :: r) = wholeL (a :: r) := by
  induction r generalizing a with
  | nil => simp [List.intercalate, wholeL]
  | cons b r ih =>
    have h := ih b
    simp only [wholeL, List.map_cons, List.flatten_cons] at h ⊢
    rw [← h]
    simp [List.intercalate]
theorem whole_is (l : List Nat) : Txt.join (Str.ofString "") (((partsL l).map ofL).map fun y => Str.ofString "::" ++ y) = ofL (wholeL (partsL l)) := by
  apply toL_inj
  rw [toL_join, empty_toL, inter_nil]
  show _ = wholeL (partsL l)
  unfold wholeL
  rw [List.map_map, List.map_map]
  congr 1
  apply List.map_congr_left
  intro p _
  show toL (Str.ofString "::" ++ ofL p) = _
  rw [toL_app, cc_toL]
  rfl
theorem whole_len (l : List Nat) (h : l.length ≤ 24) : (wholeL (partsL l)).length ≤ 74 := by
  have h1 := parts_sum l
  have key : ∀ ps : List (List Nat), (wholeL ps).length = (ps.map List.length).sum + 2 * ps.length := by
    intro ps
    induction ps with
    | nil => rfl
    | cons a r ih =>
      simp only [wholeL, List.map_cons, List.flatten_cons, List.length_append, List.length_cons, List.sum_cons] at ih ⊢
      omega
  rw [key]
  omega
theorem whole_ok {l : List Nat} (h : okL l) : okL (wholeL (partsL l)) := by
  intro c hc
  obtain ⟨p, hp, hcp⟩ := List.mem_flatten.mp hc
  obtain ⟨q, hq, rfl⟩ := List.mem_map.mp hp
  rcases List.mem_cons.mp hcp with rfl | hcp
  · decide
  rcases List.mem_cons.mp hcp with rfl | hcp
  · decide
  · exact h.parts q hq c hcp
/-- the name above, as the law glues it -/
def aboveS (l : List Nat) : Str := Str.ofString "::" ++ Txt.join (Str.ofString "::") (((partsL l).map ofL).dropLast)
theorem above_toL (l : List Nat) : toL (aboveS l) = 58 :: 58 :: ([58, 58] : List Nat).intercalate (partsL l).dropLast := by
  unfold aboveS
  rw [toL_app, toL_join, cc_toL, ← List.map_dropLast, List.map_map]
  have : (toL ∘ ofL) = _root_.id := funext fun l => rfl
  rw [this, List.map_id]
  rfl
theorem parts_split (l : List Nat) : partsL l = (partsL l).dropLast ++ [lastP l] := by
  have hne : partsL l ≠ [] := seg_ne _ _ _
  have : lastP l = (partsL l).getLast hne := by
    rw [lastP, List.getLastD_eq_getLast?, List.getLast?_eq_some_getLast hne]; rfl
  rw [this, List.dropLast_concat_getLast]
theorem whole_snoc (ps : List (List Nat)) (q : List Nat) : wholeL (ps ++ [q]) = wholeL ps ++ 58 :: 58 :: q := by
  simp [wholeL]
theorem full_root {l : List Nat} (h : aboveS l = Str.ofString "::") : Str.ofString "::" ++ ofL (lastP l) = ofL (wholeL (partsL l)) := by
  apply toL_inj
  rw [toL_app, cc_toL]
  show 58 :: 58 :: lastP l = wholeL (partsL l)
  have h2 := congrArg toL h
  rw [above_toL, cc_toL] at h2
  rw [parts_split l]
  rcases e : (partsL l).dropLast with _ | ⟨a, r⟩
  · simp [wholeL]
  · exfalso
    rw [e] at h2
    have ha : a ≠ [] := parts_ne l a (by rw [e]; exact .head _)
    simp only [List.cons.injEq, true_and] at h2
    cases r with
    | nil => simp [List.intercalate] at h2; exact ha h2
    | cons b r => simp [List.intercalate] at h2
theorem full_other {l : List Nat} (h : aboveS l ≠ Str.ofString "::") : aboveS l ++ Str.ofString "::" ++ ofL (lastP l) = ofL (wholeL (partsL l)) := by
  apply toL_inj
  rw [toL_app, toL_app, cc_toL, above_toL]
  show _ ++ lastP l = wholeL (partsL l)
  rw [show wholeL (partsL l) = wholeL ((partsL l).dropLast ++ [lastP l]) by rw [← parts_split l], whole_snoc]
  rcases e : (partsL l).dropLast with _ | ⟨a, r⟩
  · exfalso
    apply h
    apply toL_inj
    rw [above_toL, e, cc_toL]
    rfl
  · rw [inter_cc]
    simp
theorem above_len (l : List Nat) (h : l.length ≤ 24) : (Txt.join (Str.ofString "::") (((partsL l).map ofL).dropLast)).length ≤ 74 := by
  have e : (toL (aboveS l)).length = 2 + (Txt.join (Str.ofString "::") (((partsL l).map ofL).dropLast)).length := by
    rw [toL_len, aboveS, Str.length_append, cc_len]
  have h2 := whole_len l h
  rw [show wholeL (partsL l) = wholeL ((partsL l).dropLast ++ [lastP l]) by rw [← parts_split l], whole_snoc, List.length_append] at h2
  rw [above_toL] at e
  rcases e2 : (partsL l).dropLast with _ | ⟨a, r⟩
  · rw [e2] at e
    simp [List.intercalate] at e
    omega
  · rw [e2, inter_cc] at e
    rw [e2] at h2
    omega
theorem le_sum : ∀ {l : List Nat} {n : Nat}, n ∈ l → n ≤ l.sum
  | a :: r, n, h => by
    rw [List.sum_cons]
    rcases List.mem_cons.mp h with rfl | h
    · omega
    · have := le_sum h; omega
theorem str_le {l : List Nat} (h : l.length ≤ 24) {y : Str} (hy : y ∈ (partsL l).map ofL) : y.length ≤ 24 := by
  obtain ⟨p, hp, rfl⟩ := List.mem_map.mp hy
  have h1 := (parts_sum l).1
  have : p.length ≤ ((partsL l).map List.length).sum := le_sum (List.mem_map_of_mem hp)
  rw [ofL_len p]
  omega
theorem weight {B : Nat} : ∀ ys : List Str, (∀ y ∈ ys, y.length ≤ B) → (ys.map (·.length)).sum ≤ ys.length * B
  | [], _ => by simp
  | y :: r, h => by
    have h1 := h y (.head _)
    have h2 := weight r fun z hz => h z (.tail _ hz)
    simp only [List.map_cons, List.sum_cons, List.length_cons, Nat.succ_mul]
    omega
theorem parts_few24 {l : List Nat} (h : l.length ≤ 24) : ((partsL l).map ofL).length ≤ 25 := by
  have := (parts_sum l).2
  rw [List.length_map]; omega
theorem whole_weight {l : List Nat} (h : l.length ≤ 24) : (((((partsL l).map ofL).map fun y => Str.ofString "::" ++ y)).map (·.length)).sum + (((partsL l).map ofL).map fun y => Str.ofString "::" ++ y).length ≤ 1048576 := by
  have h1 := weight (B := 26) (((partsL l).map ofL).map fun y => Str.ofString "::" ++ y) (fun y hy => by
    obtain ⟨z, hz, rfl⟩ := List.mem_map.mp hy
    have := str_le h hz
    rw [Str.length_append, cc_len]
    omega)
  have h2 := parts_few24 h
  rw [List.length_map] at h1 ⊢
  have : ((partsL l).map ofL).length * 26 ≤ 25 * 26 := Nat.mul_le_mul_right _ h2
  omega
theorem above_weight {l : List Nat} (h : l.length ≤ 24) : ((((partsL l).map ofL).dropLast).map (·.length)).sum + (((partsL l).map ofL).dropLast).length ≤ 1048576 := by
  have h1 := weight (B := 26) (((partsL l).map ofL).dropLast) (fun y hy => by
    have := str_le h (List.dropLast_subset _ hy)
    omega)
  have h2 := parts_few24 h
  have h3 : (((partsL l).map ofL).dropLast).length ≤ 25 := by rw [List.length_dropLast]; omega
  have : (((partsL l).map ofL).dropLast).length * 26 ≤ 25 * 26 := Nat.mul_le_mul_right _ h3
  omega
/-- a turn's end of a loop over a written list whose body stores nothing -/
def LEnd (h₀ : Heap) (L : Addr) (x : Str) (m₀ : Str → Option Value) (news : List (Addr × Obj)) (I : Addr) (it : Obj) (s s₂ : Shared) : Prop :=
  ∃ h' tk m' news', s₂ = { s with heap := h', toks := tk } ∧ Fr h₀ L h' m' ∧ News h₀ L h' news' ∧ (∀ p ∈ (I, it) :: news, p ∈ news') ∧ (∀ z, z ≠ x → m' z = m₀ z)
def LPost (h₀ : Heap) (L : Addr) (x : Str) (m₀ : Str → Option Value) (news : List (Addr × Obj)) (I : Addr) (it : Obj) (s : Shared) (Q : Flow → Shared → Prop) (f : Flow) (s₂ : Shared) : Prop :=
  match f with
  | .ret v => Q (.ret v) s₂
  | .brk => Q .next s₂
  | _ => LEnd h₀ L x m₀ news I it s s₂
section
variable {prog : Program} {w : World} {A : Around} {E : Value → Shared → Prop} {s : Shared} {env : Env} {h₀ : Heap} {x : Str} {body : List Stmt} {Q : Flow → Shared → Prop}
theorem lst {ax : Addr} {lo : Obj} {vs : List Value} {n : Nat} {m₀ : Str → Option Value} {news : List (Addr × Obj)} (T : Value → Prop)
    (hh : A.handled = none) (F : Fr h₀ env.locals s.heap m₀) (N : News h₀ env.locals s.heap news) (hm : (ax, lo) ∈ news) (hc : lo.cls = .type "list") (hd : lo.data = .seq vs.toArray n) (hT : ∀ v ∈ vs, T v)
    (turn : ∀ v I it h tk, T v → (∀ p ∈ news, p.1 < I) → Fr h₀ env.locals h (fun y => if y = x then some v else m₀ y) → News h₀ env.locals h ((I, it) :: news) →
      wpAny (model prog w) A (execs body env) (LPost h₀ env.locals x m₀ news I it { s with heap := h, toks := tk } Q) E { s with heap := h, toks := tk })
    (done : ∀ (u : Str → Option Value) h tk, Fr h₀ env.locals h (fun y => if y = x then u y else m₀ y) → News h₀ env.locals h news → Q .next { s with heap := h, toks := tk }) :
    wpAny (model prog w) A (pyIter (.ref ax)) (fun it s₂ => LoopAtV prog w A h₀ env x body Q E it s₂) E s := by
  have hax := N _ hm
  have hl : s.heap.IsList ax vs.toArray := ⟨lo, hax.1, hc, n, hd⟩
  have hlt : ax < s.heap.objs.size := Heap.lt_size hax.1
  have hne : ax ≠ s.heap.objs.size := Nat.ne_of_lt hlt
  refine wpAny_pyIter_list hl ?_
  have below : ∀ p ∈ news, p.1 < s.heap.objs.size := fun p hp => Heap.lt_size (N p hp).1
  have W := Walks.list (prog := prog) (w := w) hh s.heap.objs.size ax hne vs.toArray
  have hnew := next_is_new F
  let J : Nat → (Str → Option Value) → List (Addr × Obj) → Prop := fun _ m₁ news₁ => news₁ = news ∧ ∀ z, z ≠ x → m₁ z = m₀ z
  have fun_is : ∀ (m₁ : Str → Option Value) (o : Str → Option Value), (∀ z, z ≠ x → m₁ z = m₀ z) → (fun y => if y = x then o y else m₁ y) = fun y => if y = x then o y else m₀ y := by
    intro m₁ o h
    funext y
    by_cases e : y = x
    · rw [if_pos e, if_pos e]
    · rw [if_neg e, if_neg e, h y e]
  refine ⟨_, _, _, vs.toArray.size, _, _, m₀, news, J, rfl, W, ?_, ?_, ?_, ⟨⟨_, Heap.get?_push_size _ rfl, rfl, rfl⟩, hl.at fun o e => Heap.get?_push_of_some _ e⟩, F.push _, (fun p hp => ⟨Heap.get?_push_of_some _ (N p hp).1, (N p hp).2⟩), ⟨rfl, fun _ _ => rfl⟩, ?_, ?_⟩
  · intro hmm
    rcases List.mem_cons.mp hmm with e | hmm
    · exact absurd F.ns.lt (e ▸ Nat.lt_irrefl _)
    · exact hax.2.1 (List.mem_singleton.mp hmm).symm
  · intro b hb
    rw [List.mem_singleton.mp hb]
    exact hnew
  · intro p hp hI
    exact absurd (below p hp) ((List.mem_singleton.mp hI) ▸ Nat.lt_irrefl _)
  · rintro i v m₁ news₁ s₁ own ⟨hh', tk', rfl⟩ hin hP ⟨rfl, hJ⟩ hoff hown hget hall hst F₁ N₁
    obtain ⟨it, hit, hic, hid⟩ := hst.1
    have hmemI := hall s.heap.objs.size (List.mem_cons_self ..) hnew _ hit
    have N₂ : News h₀ env.locals hh' ((s.heap.objs.size, it) :: news₁) := fun p hp => by
      rcases List.mem_cons.mp hp with rfl | hp
      · exact N₁ _ (List.mem_append_left _ hmemI)
      · exact N₁ _ (List.mem_append_right _ hp)
    have hv : v ∈ vs := by
      have : vs[i]? = some v := by simpa using hP
      exact List.mem_of_getElem? this
    rw [fun_is m₁ (fun _ => some v) hJ] at F₁
    refine wpAny_mono (turn v _ it hh' tk' (hT v hv) below F₁ N₂) (fun f s₂ p => ?_) fun _ _ e => e
    have fin : LEnd h₀ env.locals x m₀ news₁ s.heap.objs.size it { s with heap := hh', toks := tk' } s₂ →
        LoopStepU h₀ env.locals [s.heap.objs.size] own (J (i + 1)) { s with heap := hh', toks := tk' } .next s₂ := by
      rintro ⟨h', tk, m', news', e, F', N', hs, hz⟩
      refine ⟨rfl, h', tk, m', news₁, e, F', fun p hp => ?_, fun p hp hI => ?_, rfl, hz⟩
      · rcases List.mem_append.mp hp with hp | hp
        · have h2 : hh'.get? p.1 = some p.2 := hget p hp
          rcases List.mem_cons.mp (hown p hp) with h1 | h1
          · have h3 : p = (s.heap.objs.size, it) := by
              rw [h1, hit] at h2
              exact Prod.ext h1 (Option.some.inj h2).symm
            rw [h3]; exact N' _ (hs _ (List.mem_cons_self ..))
          · have h1' : p.1 = ax := List.mem_singleton.mp h1
            have h3 : p = (ax, lo) := by
              rw [h1', (N₁ _ (List.mem_append_right _ hm)).1] at h2
              exact Prod.ext h1' (Option.some.inj h2).symm
            rw [h3]; exact N' _ (hs _ (List.mem_cons_of_mem _ hm))
        · exact N' _ (hs _ (List.mem_cons_of_mem _ hp))
      · exact absurd (below p hp) ((List.mem_singleton.mp hI) ▸ Nat.lt_irrefl _)
    cases f with
    | ret v => exact .ret p
    | brk => exact .brk p
    | next => exact .next (fin p)
    | cont => exact .cont (fin p)
  · rintro h' tk m' news' F' N' _ ⟨rfl, hJ⟩
    refine done m' h' tk ?_ N'
    rw [← fun_is m' m' hJ]
    have : (fun y => if y = x then m' y else m' y) = m' := by funext y; split <;> rfl
    rw [this]
    exact F'
end
theorem lend {h₀ : Heap} {L : Addr} {x : Str} {m₀ m' : Str → Option Value} {news news' : List (Addr × Obj)} {I : Addr} {it : Obj} {s : Shared} {h' : Heap} {tk : Nat}
    (F : Fr h₀ L h' m') (N : News h₀ L h' news') (hn : ∀ p ∈ (I, it) :: news, p ∈ news') (hz : ∀ z, z ≠ x → m' z = m₀ z) : LEnd h₀ L x m₀ news I it s { s with heap := h', toks := tk } := ⟨h', tk, m', news', rfl, F, N, hn, hz⟩
def TEl (s : Shared) (h : Heap) (r : Str) (z : Value) (s₂ : Shared) : Prop := ∃ t tk, z = .str r t ∧ s₂ = { s with heap := h, toks := tk }
theorem wholeS_len {x : Str} (h : x.length ≤ 24) : (ofL (wholeL (partsL (toL x)))).length ≤ 74 := by
  rw [ofL_len (wholeL (partsL (toL x)))]
  exact whole_len _ (by rw [toL_len]; exact h)
theorem wholeS_ok {x : Str} (h : okL (toL x)) : okL (toL (ofL (wholeL (partsL (toL x))))) := whole_ok h
theorem full_root' {l : List Nat} (h : (Str.ofString "::" ++ Txt.join (Str.ofString "::") (((partsL l).map ofL).dropLast) == Str.ofString "::") = true) : Str.ofString "::" ++ ofL (lastP l) = ofL (wholeL (partsL l)) :=
  full_root (beq_iff_eq.mp h)
theorem full_other' {l : List Nat} (h : (Str.ofString "::" ++ Txt.join (Str.ofString "::") (((partsL l).map ofL).dropLast) == Str.ofString "::") = false) :
    Str.ofString "::" ++ Txt.join (Str.ofString "::") (((partsL l).map ofL).dropLast) ++ Str.ofString "::" ++ ofL (lastP l) = ofL (wholeL (partsL l)) :=
  full_other (l := l) fun e => by have := beq_iff_eq.mpr e; rw [show (aboveS l == Str.ofString "::") = false from h] at this; cases this
theorem asked_ok {x : Str} {t t' : Tok} (hx : x.length ≤ 12) (ho : okL (toL x)) : ∀ v ∈ [Value.str x t, Value.str (x ++ Str.ofString ")") t'], ∃ y t, v = Value.str y t ∧ y.length ≤ 24 ∧ okL (toL y) := by
  intro v hv
  rcases List.mem_cons.mp hv with rfl | hv
  · exact ⟨x, t, rfl, by omega, ho⟩
  · rw [List.mem_singleton.mp hv]
    refine ⟨_, _, rfl, ?_, ho.app ?_⟩
    · rw [Str.length_append, close_toL, ofL_len [41]]
      show x.length + 1 ≤ 24
      omega
    · rw [close_toL]
      intro c hc
      have : c = 41 := List.mem_singleton.mp hc
      omega
section
variable {prog : Program} {w : World} {A : Around} {E : Value → Shared → Prop} {s : Shared} {D : Addr}
theorem join_whole {vs : List Value} {x : Str} {t : Tok} {Q : Value → Shared → Prop} (hx : x.length ≤ 24) (hl : s.heap.IsList D vs.toArray) (hi : StrsAre vs (((partsL (toL x)).map ofL).map fun y => Str.ofString "::" ++ y))
    (h : ∀ t' k, Q (.str (ofL (wholeL (partsL (toL x)))) t') { s with toks := k }) : wpAny (model prog w) A (call (.builtin "str.join") [.str (Str.ofString "") t, .ref D]) Q E s := by
  refine join_listW hl (by simpa using hi) (by decide +kernel) (whole_weight (by rw [toL_len]; exact hx)) ?_
  rw [whole_is]
  exact h
theorem join_above {vs : List Value} {x : Str} {t : Tok} {Q : Value → Shared → Prop} (hx : x.length ≤ 24) (hl : s.heap.IsList D vs.toArray) (hi : StrsAre vs (((partsL (toL x)).map ofL).dropLast))
    (h : ∀ t' k, Q (.str (Txt.join (Str.ofString "::") (((partsL (toL x)).map ofL).dropLast)) t') { s with toks := k }) : wpAny (model prog w) A (call (.builtin "str.join") [.str (Str.ofString "::") t, .ref D]) Q E s :=
  join_listW hl (by simpa using hi) (by decide +kernel) (above_weight (by rw [toL_len]; exact hx)) h
end
section
variable {prog : Program} {w : World} {A : Around} {h₀ : Heap} {L : Addr} {m : Str → Option Value} {env : Env} {elt : Expr} {x : Str} {scope : Scope} {cl : List (Str × Addr)} {s : Shared} {S : List (Addr × Obj) → Prop} {Fin : List Value → List (Addr × Obj) → Prop} {news : List (Addr × Obj)}
/-- a comprehension over a list of texts, each turned to a text -/
theorem strs_comp {vs : List Value} {ps : List Str} (g : Str → Str) (hs : StrsAre vs ps) (hB : ∀ y ∈ ps, y.length ≤ 24) (hS : S news)
    (turn : ∀ y t I oI C oC D m₂ ys h tk (E' : Value → Shared → Prop), y.length ≤ 24 → LCg.NsObj oC m₂ → m₂ x = some (.str y t) → Fr h₀ L h m → News h₀ L h ((I, oI) :: (C, oC) :: (D, LCg.lst ys) :: news) → LCg.Off3 I C D news → ((@Ne Nat I C) ∧ (@Ne Nat I D) ∧ (@Ne Nat C D)) →
      wpAny (model prog w) A (eval elt (compEnvC scope cl C env)) (TEl s h (g y)) E' { s with heap := h, toks := tk })
    (fin : ∀ ys, StrsAre ys (ps.map g) → Fin ys news) : LCg.CompRest prog w A h₀ L m env elt x scope cl s S (fun i v => vs.toArray[i]? = some v) Fin vs.toArray.size 0 [] news := by
  have hl := StrsAre.length hs
  have key : ∀ (j i : Nat) (ys : List Value), i + j = ps.length → StrsAre ys ((ps.take i).map g) → LCg.CompRest prog w A h₀ L m env elt x scope cl s S (fun i v => vs.toArray[i]? = some v) Fin j i ys news := by
    intro j
    induction j with
    | zero =>
      intro i ys hi hy
      have e : i = ps.length := by omega
      subst e
      rw [List.take_length] at hy
      exact LCg.CompRest.zero (fin ys hy)
    | succ j ih =>
      intro i ys hi hy
      refine LCg.CompRest.succ ?_
      intro v I oI C oC D m₂ h tk E' hv hC hx F N off ne
      have hlt : i < ps.length := by omega
      have hk : ps[i]? = some ps[i] := List.getElem?_eq_getElem hlt
      obtain ⟨t, ht⟩ := strs_get hs hk
      have hv' : v = .str ps[i] t := by
        rw [List.getElem?_toArray, ht] at hv
        exact (Option.some.inj hv).symm
      rw [hv'] at hx
      refine wpAny_mono (turn _ t I oI C oC D m₂ ys h tk E' (hB _ (List.getElem_mem hlt)) hC hx F N off ne) (fun z s₂ hq => ?_) fun _ _ e => e
      obtain ⟨t', tk', rfl, rfl⟩ := hq
      refine ⟨h, tk', news, rfl, F, N, off, hS, ?_⟩
      refine ih (i + 1) _ (by omega) ?_
      rw [List.take_add_one, hk, List.map_append]
      exact kct_snoc hy
  have e : vs.toArray.size = ps.length := by rw [List.size_toArray]; omega
  rw [e]
  exact key ps.length 0 [] (by omega) (by simp only [List.take_zero, List.map_nil]; exact .nil)
end
end Mine
end
section
open PySem PySem.W PyProof.Rows PySem.Calls
namespace Mine
section
variable {prog : Program} {w : World} {p : Program} {loose : List Str} {mean : ExcName → Option Value} {mg mb : Str → Option Value}
  {dp un : Nat} {gd : Option (List Code)} {cn : Str} {cs : Scope} {a : Addr} {ccd : Value} {cl : List (Str × Addr)} {outer : List Env} {A₀ : Around} {base h₀ : Heap} {L : Addr} {m : Str → Option Value} {news : List (Addr × Obj)} {s : Shared} {Q E : Value → Shared → Prop}
local macro_rules | `(tactic| walk_at "exec While") => `(tactic| (k_here; refine hold ?_))
local macro_rules | `(tactic| walk_at "KswEnd") => `(tactic| (k_here; refine hold ?_))
local macro_rules | `(tactic| walk_at "call builtin:list.append") => `(tactic| (k_here; (with_unfolding_all refine' app1 ?k1 ?k2 ?k3 ?k4 ?_); (case k1 => assumption); (case k2 => assumption); (case k3 => assumption); (case k4 => omega); intro h' F' N'))
set_option maxHeartbeats 8000000 in
theorem name_parts_c (x : Str) (tx : Tok) (hx : x.length ≤ 100)
    (B : Below A₀ base outer h₀) (F : Fr h₀ L s.heap m) (X : (hd.heap_39 w.params).In h₀) (N : News h₀ L s.heap news) (T : Top p loose mean mg mb h₀) (hk : cs.kind = .function) (hdp : dp + 1 < recursionLimit) (hun : un + 8 < cLine)
    (ret : ∀ l r vs n h' tk', Fr h₀ L h' m → News h₀ L h' ((r, ({ cls := .type "tuple", data := .seq #[.ref l, .bool (dc (toL x))] } : Obj)) :: (l, listOf (List.toArray vs) n) :: news) → StrsAre vs ((partsL (toL x)).map ofL) → (∀ p ∈ news, p.1 < l) → l < r → Q (.ref r) { s with heap := h', toks := tk' }) :
    wpAny (model prog w) (ktrTop dp un gd cn cs L a ccd cl outer) (call (.ref 49) [.str x tx]) Q E s := by
  refine with_row ?_
  k_fill
  intro _ _
  w_on
  refine wpAny_call ?_
  k_dflt cell_enter
  rename_i g L1 h1 FG F1 N1 B1 X1 T1
  replace F1 : Fr g L1 h1 (fun y => List.lookup y [(Str.ofString "name", Value.str x tx)]) := F1
  k_steps
  refine unhold ?_
  rename_i l h2 hlt h3 h4 h5 h6 F2 N2
  refine' ksw_while (σ := List Value × List Str × Nat × Int × Tok × Int × Tok) (fun c => (l, listOf c.1.toArray c.2.2.1) :: news)
    (fun c => [(Str.ofString "start", .int c.2.2.2.1 c.2.2.2.2.1), (Str.ofString "at", .int c.2.2.2.2.2.1 c.2.2.2.2.2.2)])
    (fun c => StrsAre c.1 c.2.1) [] 
    (fun c => NPI x c.2.1 c.2.2.2.1 c.2.2.2.2.2.1)
    (fun c => (x.length - c.2.2.2.1).toNat) ([], [], 0, 0, _, Txt.find x (Str.ofString "::"), _) F2 N2 .nil ?kk ?kp ?_
  case kk => kst_all
  case kp => exact NPI.start x
  clear F2 N2
  rintro ⟨vs, ps, n, st, ts, at_, ta⟩ u h7 tk7 hf hi F7 N7
  dsimp only [kstB] at hf hi F7 N7
  have hvl := StrsAre.length hf
  have hbd := hi.bounds
  k_steps
  rotate_right
  · have hs : ∀ t, StrsAre (vs ++ [.str (Txt.slice x (some st) none) t]) ((partsL (toL x)).map ofL) := fun t => by
      rw [← hi.done (by assumption)]
      exact StrsAre.append' hf (.cons _ t .nil)
    rename (l < _ ∧ AllLt _ news) => hlr
    rename News h₀ _ _ _ => NR
    rw [abs_is] at NR
    exact ret _ _ _ _ _ _ (by assumption) NR (hs _) hlt hlr.1
  all_goals
    refine unhold ?_
    rename Fr _ _ _ _ => F8
    rename News _ _ _ _ => N8
    refine' ksw_while (σ := Int × Tok) (Function.const _ _) (fun c => [(Str.ofString "start", .int c.1 c.2)]) (fun _ => True) [] (fun c => NPJ x at_ c.1) (fun c => (x.length - c.1).toNat) (at_ + 2, _) F8 N8 trivial ?kk ?kp ?_
    case kk => kst_all
    case kp => exact NPJ.start (by assumption) (by omega)
    clear F8 N8
    rintro ⟨st', ts'⟩ u' h9 tk9 _ hj F9 N9
    dsimp only [kstB, Function.const] at hj F9 N9
    have hbj := hj.bounds
    k_steps
  all_goals rename Fr _ _ _ _ => F10
  all_goals rename News _ _ _ _ => N10
  all_goals first
    | (refine unhold (ksw_end (st' + 1, _) F10 N10 (fun _ h => h) trivial (by kst_all) (by ksw_same) ?_ ?_)
       · exact NPJ.step hj (by assumption) ((item_colon (by omega) (by assumption) (by assumption)).mp rfl)
       · dsimp only; omega)
    | (refine unhold (ksw_end (_, _, _, st', _, _, _) F10 N10 (fun _ h => h) (StrsAre.append' hf (.cons _ _ .nil)) (by kst_all) (by ksw_same) ?_ ?_)
       · have q := hi.turn (by assumption) hj (by first | exact .inl (by omega) | exact .inr (fun z => by cases (item_colon (by omega) (by assumption) (by assumption)).mpr z))
         rw [if_pos (by assumption)] at q
         exact q
       · dsimp only; omega)
    | (refine unhold (ksw_end (_, _, _, st', _, _, _) F10 N10 (fun _ h => h) hf (by kst_all) (by ksw_same) ?_ ?_)
       · have q := hi.turn (by assumption) hj (by first | exact .inl (by omega) | exact .inr (fun z => by cases (item_colon (by omega) (by assumption) (by assumption)).mpr z))
         rw [if_neg (by assumption)] at q
         exact q
       · dsimp only; omega)
end
end Mine
end
section
open PySem PySem.W PyProof.Rows PySem.Calls
namespace Mine
section
variable {prog : Program} {w : World} {p : Program} {loose : List Str} {mean : ExcName → Option Value} {mg mb : Str → Option Value}
  {dp un : Nat} {gd : Option (List Code)} {cn : Str} {cs : Scope} {a : Addr} {ccd : Value} {cl : List (Str × Addr)} {outer : List Env} {A₀ : Around} {base h₀ : Heap} {L : Addr} {m : Str → Option Value} {news : List (Addr × Obj)} {s : Shared} {Q E : Value → Shared → Prop}
local macro_rules | `(tactic| walk_at "call ref") => `(tactic| (k_here; k_dflt (refine' name_parts_c _ _ ?k0 ?k1 ?k2 ?k3 ?k4 ?k5 ?kK ?kd ?ku ?_; (case k0 => omega); (case k1 => k_asm); (case k2 => k_asm); (case k3 => k_asm); (case k4 => k_asm); (case k5 => k_asm); (case kK => first | exact rfl | assumption); (case kd => ktr_room); (case ku => ktr_units)); intro l9 r9 vs9 n9 h9 tk9 F9 N9 hs9 hlt9 hlr9; (try dsimp only); (try k_fold)))
local macro_rules | `(tactic| walk_at "subscriptTail Name UnaryOp ref int") => `(tactic| (k_here; k_dflt (refine' strs_last ?k1 ?k2 ?k3 ?k4 ?_ ?k6; (case k1 => is_list); (case k2 => assumption); (case k3 => exact parts_last _); (case k4 => exact Nat.le_trans (parts_few (by omega)) (by decide)); (case k6 => with_unfolding_all rfl)); intro t9))
set_option maxHeartbeats 8000000 in
theorem tail_c (x : Str) (tx : Tok) (hx : x.length ≤ 100)
    (B : Below A₀ base outer h₀) (F : Fr h₀ L s.heap m) (X : (hd.heap_39 w.params).In h₀) (N : News h₀ L s.heap news) (T : Top p loose mean mg mb h₀) (hk : cs.kind = .function) (hdp : dp + 2 < recursionLimit) (hun : un + 16 < cLine)
    (ret : ∀ t h' tk', Fr h₀ L h' m → News h₀ L h' news → Q (.str (ofL (lastP (toL x))) t) { s with heap := h', toks := tk' }) :
    wpAny (model prog w) (ktrTop dp un gd cn cs L a ccd cl outer) (call (.ref 56) [.str x tx]) Q E s := by
  refine with_row ?_
  k_fill
  intro _ _
  w_on
  refine wpAny_call ?_
  k_dflt cell_enter
  rename_i g L1 h1 FG F1 N1 B1 X1 T1
  replace F1 : Fr g L1 h1 (fun y => List.lookup y [(Str.ofString "name", Value.str x tx)]) := F1
  k_steps
  rename News h₀ _ _ _ => NR
  exact ret _ _ _ (by assumption) (fun p hp => NR p (.tail _ (.tail _ hp)))
end
end Mine
end
section
open PySem PySem.W PyProof.Rows PySem.Calls
namespace Mine
section
variable {prog : Program} {w : World} {p : Program} {loose : List Str} {mean : ExcName → Option Value} {mg mb : Str → Option Value}
  {dp un : Nat} {gd : Option (List Code)} {cn : Str} {cs : Scope} {a : Addr} {ccd : Value} {cl : List (Str × Addr)} {outer : List Env} {A₀ : Around} {base h₀ : Heap} {L : Addr} {m : Str → Option Value} {news : List (Addr × Obj)} {s : Shared} {Q E : Value → Shared → Prop}
local macro_rules | `(tactic| walk_at "exec While") => `(tactic| (k_here; refine hold ?_))
local macro_rules | `(tactic| walk_at "KswEnd") => `(tactic| (k_here; refine hold ?_))
local macro_rules | `(tactic| walk_at "call ref") => `(tactic| (k_here; k_dflt (refine' tail_c _ _ ?k0 ?k1 ?k2 ?k3 ?k4 ?k5 ?kK ?kd ?ku ?_; (case k0 => omega); (case k1 => k_asm); (case k2 => k_asm); (case k3 => k_asm); (case k4 => k_asm); (case k5 => k_asm); (case kK => first | exact rfl | assumption); (case kd => ktr_room); (case ku => ktr_units)); intro t9 h9 tk9 F9 N9; (try dsimp only); (try k_fold)))
set_option maxHeartbeats 8000000 in
theorem qualifiers_c (x : Str) (tx : Tok) (hx : x.length ≤ 100)
    (B : Below A₀ base outer h₀) (F : Fr h₀ L s.heap m) (X : (hd.heap_39 w.params).In h₀) (N : News h₀ L s.heap news) (T : Top p loose mean mg mb h₀) (hk : cs.kind = .function) (hdp : dp + 3 < recursionLimit) (hun : un + 24 < cLine)
    (ret : ∀ t h' tk', Fr h₀ L h' m → News h₀ L h' news → Q (.str (ofL (qualL (toL x))) t) { s with heap := h', toks := tk' }) :
    wpAny (model prog w) (ktrTop dp un gd cn cs L a ccd cl outer) (call (.ref 63) [.str x tx]) Q E s := by
  refine with_row ?_
  k_fill
  intro _ _
  w_on
  refine wpAny_call ?_
  k_dflt cell_enter
  rename_i g L1 h1 FG F1 N1 B1 X1 T1
  replace F1 : Fr g L1 h1 (fun y => List.lookup y [(Str.ofString "name", Value.str x tx)]) := F1
  have hlast : (ofL (lastP (toL x))).length ≤ x.length := by
    rw [ofL_len (lastP (toL x)), ← toL_len]; exact lastP_le _
  k_steps
  refine unhold ?_
  rename Fr _ _ _ _ => F8
  rename News _ _ _ _ => N8
  refine' ksw_while (σ := Int × Tok) (Function.const _ _) (fun c => [(Str.ofString "at", .int c.1 c.2)]) (fun _ => True) [] (fun c => QI x c.1) (fun c => c.1.toNat) (_, _) F8 N8 trivial ?kk ?kp ?_
  case kk => kst_all
  case kp => exact QI.start x
  clear F8 N8
  rintro ⟨at_, ta⟩ u' h9 tk9 _ hj F9 N9
  dsimp only [kstB, Function.const] at hj F9 N9
  have hbj := hj.bounds
  k_steps
  · rename Fr _ _ _ _ => F10
    rename News _ _ _ _ => N10
    refine unhold (ksw_end (at_ - 1, _) F10 N10 (fun _ h => h) trivial (by kst_all) (by ksw_same) (hj.step (by assumption) ((item_colon (by omega) (by omega) (by assumption)).mp rfl)) (by dsimp only; omega))
  · rw [hj.done (.inr ⟨by assumption, fun z => by cases (item_colon (by omega) (by omega) (by assumption)).mpr z⟩)]
    exact ret _ _ _ (by assumption) (by assumption)
  · rw [hj.done (.inl (by omega))]
    exact ret _ _ _ (by assumption) (by assumption)
end
end Mine
end
section
open PySem PySem.W PyProof.Rows PySem.Calls
namespace Mine
section
variable {prog : Program} {w : World} {p : Program} {loose : List Str} {mean : ExcName → Option Value} {mg mb : Str → Option Value}
  {dp un : Nat} {gd : Option (List Code)} {cn : Str} {cs : Scope} {a : Addr} {ccd : Value} {cl : List (Str × Addr)} {outer : List Env} {A₀ : Around} {base h₀ : Heap} {L : Addr} {m : Str → Option Value} {news : List (Addr × Obj)} {s : Shared} {Q E : Value → Shared → Prop}
set_option maxHeartbeats 8000000 in
theorem split_c (x : Str) (tx : Tok) (hx : x.length ≤ 100)
    (B : Below A₀ base outer h₀) (F : Fr h₀ L s.heap m) (X : (hd.heap_39 w.params).In h₀) (N : News h₀ L s.heap news) (T : Top p loose mean mg mb h₀) (hk : cs.kind = .function) (hdp : dp + 1 < recursionLimit) (hun : un + 8 < cLine)
    (ret : ∀ r o h' tk', Fr h₀ L h' m → News h₀ L h' ((r, o) :: news) → (∀ p ∈ news, p.1 < r) → ElemObj (toL x) o → Q (.ref r) { s with heap := h', toks := tk' }) :
    wpAny (model prog w) (ktrTop dp un gd cn cs L a ccd cl outer) (call (.ref 42) [.str x tx]) Q E s := by
  refine with_row ?_
  k_fill
  intro _ _
  w_on
  refine wpAny_call ?_
  k_dflt cell_enter
  rename_i g L1 h1 FG F1 N1 B1 X1 T1
  replace F1 : Fr g L1 h1 (fun y => List.lookup y [(Str.ofString "name", Value.str x tx)]) := F1
  k_steps
  · rename News h₀ _ _ _ => NR
    have q := split_some (by assumption) (by assumption)
    rw [q.2.1, q.2.2] at NR
    exact ret _ _ _ _ (by assumption) NR (by assumption) (.inl ⟨_, _, _, q.1, rfl⟩)
  · rename News h₀ _ _ _ => NR
    exact ret _ _ _ _ (by assumption) NR (by assumption) (.inr ⟨_, split_none (.inr (by assumption)), by rw [ofL_toL]⟩)
  · rename News h₀ _ _ _ => NR
    exact ret _ _ _ _ (by assumption) NR (by assumption) (.inr ⟨_, split_none (.inl (by assumption)), by rw [ofL_toL]⟩)
end
end Mine
end
section
open PySem PySem.W PyProof.Rows PySem.Calls
namespace Mine
section
variable {prog : Program} {w : World} {p : Program} {loose : List Str} {mean : ExcName → Option Value} {mg mb : Str → Option Value}
  {dp un : Nat} {gd : Option (List Code)} {cn : Str} {cs : Scope} {a : Addr} {ccd : Value} {cl : List (Str × Addr)} {outer : List Env} {A₀ : Around} {base h₀ : Heap} {L : Addr} {m : Str → Option Value} {news : List (Addr × Obj)} {s : Shared} {Q E : Value → Shared → Prop}
local macro_rules | `(tactic| walk_at "exec For Name Call cons nil") => `(tactic| (k_here; (rename Fr _ _ _ _ => lF'); (with_unfolding_all refine' For_invVF lF' ?k1 ?k2 ?_; (case k1 => exact rfl); (case k2 => exact rfl); k_whole)))
local macro_rules | `(tactic| walk_at "pyIter ref") => `(tactic| (k_here; refine hold ?_))
local macro_rules | `(tactic| walk_at "REnd") => `(tactic| (k_here; refine hold ?_))
local macro_rules | `(tactic| walk_at "RPost") => `(tactic| (dsimp only [RPost]))
local macro_rules | `(tactic| walk_at "binaryOp Add str str") => `(tactic| (k_here; (refine KOpn.add (by omega) ?_); intro t9 k9 hl9))
set_option maxHeartbeats 8000000 in
theorem element_c (x : Str) (tx : Tok) (hx : x.length ≤ 100)
    (B : Below A₀ base outer h₀) (F : Fr h₀ L s.heap m) (X : (hd.heap_39 w.params).In h₀) (N : News h₀ L s.heap news) (T : Top p loose mean mg mb h₀) (hk : cs.kind = .function) (hdp : dp + 1 < recursionLimit) (hun : un + 8 < cLine)
    (ret : ∀ r o h' tk', Fr h₀ L h' m → News h₀ L h' ((r, o) :: news) → (∀ p ∈ news, p.1 < r) → ElemObj (toL x) o → Q (.ref r) { s with heap := h', toks := tk' }) :
    wpAny (model prog w) (ktrTop dp un gd cn cs L a ccd cl outer) (call (.ref 119) [.str x tx]) Q E s := by
  refine with_row ?_
  k_fill
  intro _ _
  w_on
  refine wpAny_call ?_
  k_dflt cell_enter
  rename_i g L1 h1 FG F1 N1 B1 X1 T1
  replace F1 : Fr g L1 h1 (fun y => List.lookup y [(Str.ofString "name", Value.str x tx)]) := F1
  k_steps
  refine unhold ?_
  rename Fr _ _ _ _ => F2
  rename News _ _ _ _ => N2
  rename IsRange _ _ _ _ _ _ _ _ => R2
  refine' rng x.length (σ := Str × Tok) (Function.const _ _) (fun c => [(Str.ofString "base", .str c.1 c.2)]) []
    (fun i c => ELI x i c.1) (_, _) rfl R2 ?h1 (range_size _) F2 N2 ?kk ?kp ?_ ?_
  case h1 => exact small_one (by omega) (by omega) (by omega) (by omega)
  case kk => kst_all
  case kp => exact ELI.start x
  · clear F2 N2 R2
    rintro ⟨b, tb⟩ i t u h2 tk own hi hoff hI F2 N2
    dsimp only [kstB, Function.const, envOf] at hI hoff F2 N2
    simp only [Int.zero_add] at F2
    have hbl := hI.len hx
    k_steps
    · rename News h₀ _ _ _ => NR
      have q := hI.back hi (by assumption) (by assumption)
      rw [q.2.1, q.2.2] at NR
      rename (∀ p ∈ news ++ own, _) => hlt
      exact ret _ _ _ _ (by assumption) (fun p hp => NR p (by rcases List.mem_cons.mp hp with rfl | hp; exact .head _; exact .tail _ (mem_left _ hp))) (fun p hp => hlt p (mem_left _ hp)) (.inl ⟨_, _, _, q.1, rfl⟩)
    all_goals
      rename Fr _ _ _ _ => F10
      rename News _ _ _ _ => N10
      refine unhold (rend (_, _) F10 N10 mem_left mem_right hoff (by kst_all) (by kst_same) ?_)
      exact hI.step hi (by first | exact .inl (by assumption) | exact .inr (by assumption))
  · clear F2 N2 R2
    rintro ⟨b, tb⟩ u h2 tk hI F2 N2
    dsimp only [kstB, Function.const, envOf] at hI F2 N2
    k_steps
    rename News h₀ _ _ _ => NR
    exact ret _ _ _ _ (by assumption) NR (by assumption) (.inr ⟨_, hI.done, by rw [ofL_toL]⟩)
end
end Mine
end
section
open PySem PySem.W PyProof.Rows PySem.Calls
namespace Mine
section
variable {prog : Program} {w : World} {p : Program} {loose : List Str} {mean : ExcName → Option Value} {mg mb : Str → Option Value}
  {dp un : Nat} {gd : Option (List Code)} {cn : Str} {cs : Scope} {a : Addr} {ccd : Value} {cl : List (Str × Addr)} {outer : List Env} {A₀ : Around} {base h₀ : Heap} {L : Addr} {m : Str → Option Value} {news : List (Addr × Obj)} {s : Shared} {Q E : Value → Shared → Prop}
local macro_rules | `(tactic| walk_at "exec For Name Call cons nil") => `(tactic| (k_here; (rename Fr _ _ _ _ => lF'); (with_unfolding_all refine' For_invVF lF' ?k1 ?k2 ?_; (case k1 => exact rfl); (case k2 => exact rfl); k_whole)))
local macro_rules | `(tactic| walk_at "pyIter ref") => `(tactic| (k_here; refine hold ?_))
local macro_rules | `(tactic| walk_at "REnd") => `(tactic| (k_here; refine hold ?_))
local macro_rules | `(tactic| walk_at "RPost") => `(tactic| (dsimp only [RPost]))
local macro_rules | `(tactic| walk_at "binaryOp Add str str") => `(tactic| (k_here; (refine KOpn.add (by omega) ?_); intro t9 k9 hl9))
local macro_rules | `(tactic| walk_at "call builtin:list.append") => `(tactic| (k_here; (with_unfolding_all refine' app2 ?k1 ?k2 ?k3 ?k4 ?_); (case k1 => assumption); (case k2 => assumption); (case k3 => assumption); (case k4 => (simp only [List.length_map, List.length_range]; omega)); intro h' F' N'))
set_option maxHeartbeats 8000000 in
theorem marks_c (x : Str) (tx : Tok) (hx : x.length ≤ 100)
    (B : Below A₀ base outer h₀) (F : Fr h₀ L s.heap m) (X : (hd.heap_39 w.params).In h₀) (N : News h₀ L s.heap news) (T : Top p loose mean mg mb h₀) (hk : cs.kind = .function) (hdp : dp + 1 < recursionLimit) (hun : un + 8 < cLine)
    (ret : ∀ l n h' tk', Fr h₀ L h' m → News h₀ L h' ((l, listOf ((List.range x.length).map fun k => Value.bool (mrk (toL x) k)).toArray n) :: news) → (∀ p ∈ news, p.1 < l) → Q (.ref l) { s with heap := h', toks := tk' }) :
    wpAny (model prog w) (ktrTop dp un gd cn cs L a ccd cl outer) (call (.ref 91) [.str x tx]) Q E s := by
  refine with_row ?_
  k_fill
  intro _ _
  w_on
  refine wpAny_call ?_
  k_dflt cell_enter
  rename_i g L1 h1 FG F1 N1 B1 X1 T1
  replace F1 : Fr g L1 h1 (fun y => List.lookup y [(Str.ofString "name", Value.str x tx)]) := F1
  k_steps
  refine unhold ?_
  rename Fr _ _ _ _ => F2
  rename News _ _ _ _ => N2
  rename IsRange _ _ _ _ _ _ _ _ => R2
  rename (∀ p ∈ news, _) => hlt
  rename_i l hA hB FA NA hC tkC tA uA vA kA
  clear FA NA kA
  refine' rng x.length (σ := Nat × Nat) (fun c => (l, listOf ((List.range c.1).map fun k => Value.bool (mrk (toL x) k)).toArray c.2) :: news) (fun c => []) [Str.ofString "beside"]
    (fun i c => c.1 = i) (0, 0) rfl R2 ?h1 (range_size _) F2 N2 (fun _ h => nomatch h) rfl ?_ ?_
  case h1 => exact small_one (by omega) (by omega) (by omega) (by omega)
  · clear F2 N2 R2
    rintro ⟨j, n⟩ i t u h2 tk own hi hoff hI F2 N2
    dsimp only [kstB, Function.const, envOf] at hI hoff F2 N2
    subst hI
    simp only [Int.zero_add] at F2
    rw [List.cons_append] at N2
    have hne := ne_led hlt hoff
    k_steps
    · rename Fr _ _ _ _ => F10
      rename News _ _ _ _ => N10
      rw [marks_snoc x j _ (mark_yes hi (by assumption))] at N10
      exact unhold (rend (j + 1, _) F10 N10 mem_left (fun p hp => .tail _ (mem_right p hp)) hoff (fun _ h => nomatch h) (by kst_same) rfl)
    · rename Fr _ _ _ _ => F10
      rename News _ _ _ _ => N10
      rw [marks_snoc x j _ (mark_no hi (by assumption))] at N10
      exact unhold (rend (j + 1, _) F10 N10 mem_left (fun p hp => .tail _ (mem_right p hp)) hoff (fun _ h => nomatch h) (by kst_same) rfl)
  · clear F2 N2 R2
    rintro ⟨j, n⟩ u h2 tk hI F2 N2
    dsimp only [kstB, Function.const, envOf] at hI F2 N2
    subst hI
    k_steps
    exact ret _ _ _ _ (by assumption) (by assumption) hlt
end
end Mine
end
section
open PySem PySem.W PyProof.Rows PySem.Calls
namespace Mine
section
variable {prog : Program} {w : World} {p : Program} {loose : List Str} {mean : ExcName → Option Value} {mg mb : Str → Option Value}
  {dp un : Nat} {gd : Option (List Code)} {cn : Str} {cs : Scope} {a : Addr} {ccd : Value} {cl : List (Str × Addr)} {outer : List Env} {A₀ : Around} {base h₀ : Heap} {L : Addr} {m : Str → Option Value} {news : List (Addr × Obj)} {s : Shared} {Q E : Value → Shared → Prop}
local macro_rules | `(tactic| walk_at "exec For Name Call cons nil") => `(tactic| (k_here; (rename Fr _ _ _ _ => lF'); (with_unfolding_all refine' For_invVF lF' ?k1 ?k2 ?_; (case k1 => exact rfl); (case k2 => exact rfl); k_whole)))
local macro_rules | `(tactic| walk_at "pyIter ref") => `(tactic| (k_here; refine hold ?_))
local macro_rules | `(tactic| walk_at "REnd") => `(tactic| (k_here; refine hold ?_))
local macro_rules | `(tactic| walk_at "RPost") => `(tactic| (dsimp only [RPost]))
local macro_rules | `(tactic| walk_at "binaryOp Add str str") => `(tactic| (k_here; (refine KOpn.add (by omega) ?_); intro t9 k9 hl9))
local macro_rules | `(tactic| walk_at "call ref") => `(tactic| (k_here; k_dflt (refine' marks_c _ _ ?k0 ?k1 ?k2 ?k3 ?k4 ?k5 ?kK ?kd ?ku ?_; (case k0 => omega); (case k1 => k_asm); (case k2 => k_asm); (case k3 => k_asm); (case k4 => k_asm); (case k5 => k_asm); (case kK => first | exact rfl | assumption); (case kd => ktr_room); (case ku => ktr_units)); intro l9 n9 h9 tk9 F9 N9 hlt9; (try dsimp only); (try k_fold)))
local macro_rules | `(tactic| walk_at "call builtin:list.append") => `(tactic| (k_here; (with_unfolding_all refine' app2 ?k1 ?k2 ?k3 ?k4 ?_); (case k1 => assumption); (case k2 => assumption); (case k3 => assumption); (case k4 => omega); intro h' F' N'))
local macro_rules | `(tactic| walk_at "subscriptTail") => `(tactic| (k_here; k_dflt (refine' marks_item ?k1 ?k2 ?k3 ?k4 ?_ ?k6; (case k1 => is_list); (case k2 => omega); (case k3 => omega); (case k4 => assumption); (case k6 => with_unfolding_all rfl))))
local macro_rules | `(tactic| walk_at "subscriptTail Name UnaryOp ref int") => `(tactic| (k_here; k_dflt (refine' strs_last ?k1 ?k2 ?k3 ?k4 ?_ ?k6; (case k1 => is_list); (case k2 => assumption); (case k3 => assumption); (case k4 => omega); (case k6 => with_unfolding_all rfl)); intro t9))
local macro_rules | `(tactic| walk_at "setItem ref int") => `(tactic| (k_here; (with_unfolding_all refine' set_last ?k1 ?k2 ?k3 ?k4 ?_); (case k1 => assumption); (case k2 => assumption); (case k3 => assumption); (case k4 => omega); intro h' F' N'))
local macro_rules | `(tactic| walk_at "subscriptTail Name Slice ref ref") => `(tactic| (k_here; k_dflt (refine' kmk_slice_lit ?F ?N ?l ?p ?q ?e ?_ ?s ?t ?z; (case F => k_asm); (case N => k_asm); (case l => is_list); (case p => kmk_part); (case q => kmk_part); (case e => exact first_mark _); (case s => with_unfolding_all rfl); (case t => kmk_pure); (case z => (simp only [List.size_toArray, List.length_map, List.length_range, PySem.sizeLine_eq]; omega))); intro D' h' F' N' l1))
local macro_rules | `(tactic| walk_at "compareOp Eq ref ref") => `(tactic| (k_here; k_dflt (refine' bools_eq (cs := [true]) ?a ?b ?u ?_; (case a => is_list); (case b => is_list); (case u => units_room)); rw [first_is]))
set_option maxHeartbeats 8000000 in
theorem cut_c (x : Str) (tx : Tok) (hx : x.length ≤ 100)
    (B : Below A₀ base outer h₀) (F : Fr h₀ L s.heap m) (X : (hd.heap_39 w.params).In h₀) (N : News h₀ L s.heap news) (T : Top p loose mean mg mb h₀) (hk : cs.kind = .function) (hdp : dp + 2 < recursionLimit) (hun : un + 200 < cLine)
    (ret : ∀ l r vs n t1 t2 h' tk', Fr h₀ L h' m → News h₀ L h' ((r, ({ cls := .type "tuple", data := .seq #[.ref l, .bool (dc (toL x)), .str (ofL (qualL (toL x))) t1, .str (ofL (lastP (toL x))) t2] } : Obj)) :: (l, listOf (List.toArray vs) n) :: news) → StrsAre vs ((partsL (toL x)).map ofL) → (∀ p ∈ news, p.1 < l) → l < r → Q (.ref r) { s with heap := h', toks := tk' }) :
    wpAny (model prog w) (ktrTop dp un gd cn cs L a ccd cl outer) (call (.ref 98) [.str x tx]) Q E s := by
  refine with_row ?_
  k_fill
  intro _ _
  w_on
  refine wpAny_call ?_
  k_dflt cell_enter
  rename_i g L1 h1 FG F1 N1 B1 X1 T1
  replace F1 : Fr g L1 h1 (fun y => List.lookup y [(Str.ofString "name", Value.str x tx)]) := F1
  k_steps
  refine unhold ?_
  rename Fr _ _ _ _ => F2
  rename News _ _ _ _ => N2
  rename IsRange _ _ _ _ _ _ _ _ => R2
  rename_i lm n9 h9 tk9 hltm hA lp hB hltp hC hD hE FA NA hF tkF t1 u1 v1 kA
  clear FA NA kA
  refine' rng x.length (σ := List Value × List Str × Nat × Int × Tok × Int × Tok)
    (fun c => (lp, listOf c.1.toArray c.2.2.1) :: (lm, listOf ((List.range x.length).map fun k => Value.bool (mrk (toL x) k)).toArray n9) :: news)
    (fun c => [(Str.ofString "first", .int c.2.2.2.1 c.2.2.2.2.1), (Str.ofString "behind", .int c.2.2.2.2.2.1 c.2.2.2.2.2.2)]) []
    (fun i c => StrsAre c.1 c.2.1 ∧ CI x i c.2.1 c.2.2.2.1 c.2.2.2.2.2.1) ([.str (Str.ofString "") _], [Str.ofString ""], 0, 0, _, 0, _) rfl R2 ?h1 (range_size _) F2 N2 ?kk ?kp ?_ ?_
  case h1 => exact small_one (by omega) (by omega) (by omega) (by omega)
  case kk => kst_all
  case kp => exact ⟨.cons _ _ .nil, CI.start x⟩
  · clear F2 N2 R2
    rintro ⟨vs, ps, n, fi, tf, be, tb⟩ i t u h2 tk own hi hoff ⟨hvs, hI⟩ F2 N2
    dsimp only [kstB, Function.const, envOf] at hvs hI hoff F2 N2
    simp only [Int.zero_add] at F2
    rw [List.cons_append] at N2
    obtain ⟨pre, y, rfl, hyl, hpl⟩ := hI.last
    have hy : (pre ++ [y]).getLast? = some y := by simp
    have hvl := StrsAre.length hvs
    have hvl2 : (pre ++ [y]).length = pre.length + 1 := by simp
    have hne : ∀ p ∈ ((lm, listOf ((List.range x.length).map fun k => Value.bool (mrk (toL x) k)).toArray n9) :: news) ++ own, p.1 ≠ lp := by
      refine ne_led (fun p hp => ?_) hoff
      rcases List.mem_cons.mp hp with rfl | hp
      · exact hltp.1
      · exact Nat.lt_trans (hltm p hp) hltp.1
    k_steps
    · rename Fr _ _ _ _ => F10
      rename News _ _ _ _ => N10
      refine unhold (rend (_, _, _, _, _, _, _) F10 N10 mem_left (fun p hp => .tail _ (mem_right p hp)) hoff (by kst_all) (by kst_same) ⟨hvs, ?_⟩)
      exact hI.begin0 hi (by assumption) (by assumption)
    · rename Fr _ _ _ _ => F10
      rename News _ _ _ _ => N10
      refine unhold (rend (_, _, _, _, _, _, _) F10 N10 mem_left (fun p hp => .tail _ (mem_right p hp)) hoff (by kst_all) (by kst_same) ⟨hvs, ?_⟩)
      exact hI.go hi (by assumption) (by assumption) (by assumption)
    · rename Fr _ _ _ _ => F10
      rename News _ _ _ _ => N10
      refine unhold (rend (_, _, _, _, _, _, _) F10 N10 mem_left (fun p hp => .tail _ (mem_right p hp)) hoff (by kst_all) (by kst_same) ⟨StrsAre.append' hvs (.cons _ _ .nil), ?_⟩)
      exact hI.begin1 hi (by assumption) (by assumption) (by assumption)
    · rename Fr _ _ _ _ => F10
      rename News _ _ _ _ => N10
      refine unhold (rend (_, _, _, _, _, _, _) F10 N10 mem_left (fun p hp => .tail _ (mem_right p hp)) hoff (by kst_all) (by kst_same) ⟨StrsAre.append' (strs_dropLast hvs) (.cons _ _ .nil), ?_⟩)
      exact hI.plain hi (by assumption)
  · clear F2 N2 R2
    rintro ⟨vs, ps, n, fi, tf, be, tb⟩ u h2 tk ⟨hvs, hI⟩ F2 N2
    dsimp only [kstB, Function.const, envOf] at hvs hI F2 N2
    have hbd := hI.bounds
    k_steps
    rename News h₀ _ _ _ => NR
    rename (_ < _ ∧ _ < _ ∧ lp < _ ∧ lm < _ ∧ AllLt _ news) => hD
    have d := hI.done
    rw [d.2.1, d.2.2] at NR
    rw [d.1] at hvs
    exact ret _ _ _ _ _ _ _ _ (by assumption) (news_pick NR) hvs (fun p hp => Nat.lt_trans (hltm p hp) hltp.1) hD.2.2.1
end
end Mine
end
section
open PySem PySem.W PyProof.Rows PySem.Calls
namespace Mine
section
variable {prog : Program} {w : World} {p : Program} {loose : List Str} {mean : ExcName → Option Value} {mg mb : Str → Option Value}
  {dp un : Nat} {gd : Option (List Code)} {cn : Str} {cs : Scope} {a : Addr} {ccd : Value} {cl : List (Str × Addr)} {outer : List Env} {A₀ : Around} {base h₀ : Heap} {L : Addr} {m : Str → Option Value} {news : List (Addr × Obj)} {s : Shared} {Q E : Value → Shared → Prop}
local macro_rules | `(tactic| walk_at "call ref") => `(tactic| (k_here; k_dflt (refine' cut_c _ _ ?k0 ?k1 ?k2 ?k3 ?k4 ?k5 ?kK ?kd ?ku ?_; (case k0 => omega); (case k1 => k_asm); (case k2 => k_asm); (case k3 => k_asm); (case k4 => k_asm); (case k5 => k_asm); (case kK => first | exact rfl | assumption); (case kd => ktr_room); (case ku => ktr_units)); intro l9 r9 vs9 n9 t9 u9 h9 tk9 F9 N9 hs9 hlt9 hlr9; (try dsimp only); (try k_fold)))
local macro_rules | `(tactic| walk_at "call ref") => `(tactic| (k_here; k_dflt (refine' name_parts_c _ _ ?k0 ?k1 ?k2 ?k3 ?k4 ?k5 ?kK ?kd ?ku ?_; (case k0 => omega); (case k1 => k_asm); (case k2 => k_asm); (case k3 => k_asm); (case k4 => k_asm); (case k5 => k_asm); (case kK => first | exact rfl | assumption); (case kd => ktr_room); (case ku => ktr_units)); intro l9 r9 vs9 n9 h9 tk9 F9 N9 hs9 hlt9 hlr9; (try dsimp only); (try k_fold)))
local macro_rules | `(tactic| walk_at "call ref") => `(tactic| (k_here; k_dflt (refine' qualifiers_c _ _ ?k0 ?k1 ?k2 ?k3 ?k4 ?k5 ?kK ?kd ?ku ?_; (case k0 => omega); (case k1 => k_asm); (case k2 => k_asm); (case k3 => k_asm); (case k4 => k_asm); (case k5 => k_asm); (case kK => first | exact rfl | assumption); (case kd => ktr_room); (case ku => ktr_units)); intro t9 h9 tk9 F9 N9; (try dsimp only); (try k_fold)))
local macro_rules | `(tactic| walk_at "call ref") => `(tactic| (k_here; k_dflt (refine' tail_c _ _ ?k0 ?k1 ?k2 ?k3 ?k4 ?k5 ?kK ?kd ?ku ?_; (case k0 => omega); (case k1 => k_asm); (case k2 => k_asm); (case k3 => k_asm); (case k4 => k_asm); (case k5 => k_asm); (case kK => first | exact rfl | assumption); (case kd => ktr_room); (case ku => ktr_units)); intro t9 h9 tk9 F9 N9; (try dsimp only); (try k_fold)))
local macro_rules | `(tactic| walk_at "compareOp NotEq ref ref") => `(tactic| (k_here; k_dflt (refine' pair_ne ?N ?a ?b ?c ?d ?e ?f ?ok ?u ?_; (case N => k_asm); (case a => k_mem); (case b => k_mem); (case c => assumption); (case d => k_mem); (case e => k_mem); (case f => assumption); (case ok => exact parts_ok (by assumption)); (case u => units_room))))
local macro_rules | `(tactic| walk_at "compareOp Eq ref ref") => `(tactic| (k_here; k_dflt (refine' two_eq ?N ?a ?b ?c ?d ?u ?_; (case N => k_asm); (case a => k_mem); (case b => k_mem); (case c => exact okL.str (okL.qual (by assumption))); (case d => exact okL.str (okL.last (by assumption))); (case u => units_room))))
set_option maxHeartbeats 8000000 in
theorem is_cut_c (x : Str) (tx : Tok) (hx : x.length ≤ 100) (hok : okL (toL x))
    (B : Below A₀ base outer h₀) (F : Fr h₀ L s.heap m) (X : (hd.heap_39 w.params).In h₀) (N : News h₀ L s.heap news) (T : Top p loose mean mg mb h₀) (hk : cs.kind = .function) (hdp : dp + 4 < recursionLimit) (hun : un + 300 < cLine)
    (ret : ∀ h' tk', Fr h₀ L h' m → News h₀ L h' news → Q (.bool true) { s with heap := h', toks := tk' }) :
    wpAny (model prog w) (ktrTop dp un gd cn cs L a ccd cl outer) (call (.ref 105) [.str x tx]) Q E s := by
  refine with_row ?_
  k_fill
  intro _ _
  w_on
  refine wpAny_call ?_
  k_dflt cell_enter
  rename_i g L1 h1 FG F1 N1 B1 X1 T1
  replace F1 : Fr g L1 h1 (fun y => List.lookup y [(Str.ofString "name", Value.str x tx)]) := F1
  k_steps
  rename News h₀ _ _ _ => NR
  exact ret _ _ (by assumption) (fun p hp => NR p (by repeat (first | exact hp | refine List.Mem.tail _ ?_)))
end
end Mine
end
section
open PySem PySem.W PyProof.Rows PySem.Calls
namespace Mine
section
variable {prog : Program} {w : World} {p : Program} {loose : List Str} {mean : ExcName → Option Value} {mg mb : Str → Option Value}
  {dp un : Nat} {gd : Option (List Code)} {cn : Str} {cs : Scope} {a : Addr} {ccd : Value} {cl : List (Str × Addr)} {outer : List Env} {A₀ : Around} {base h₀ : Heap} {L : Addr} {m : Str → Option Value} {news : List (Addr × Obj)} {s : Shared} {Q E : Value → Shared → Prop}
local macro_rules | `(tactic| walk_at "exec For Name Call cons nil") => `(tactic| (k_here; (rename Fr _ _ _ _ => lF'); (with_unfolding_all refine' For_invVF lF' ?k1 ?k2 ?_; (case k1 => exact rfl); (case k2 => exact rfl); k_whole)))
local macro_rules | `(tactic| walk_at "pyIter ref") => `(tactic| (k_here; refine hold ?_))
local macro_rules | `(tactic| walk_at "REnd") => `(tactic| (k_here; refine hold ?_))
local macro_rules | `(tactic| walk_at "RPost") => `(tactic| (dsimp only [RPost]))
local macro_rules | `(tactic| walk_at "call ref") => `(tactic| (k_here; k_dflt (refine' qualifiers_c _ _ ?k0 ?k1 ?k2 ?k3 ?k4 ?k5 ?kK ?kd ?ku ?_; (case k0 => omega); (case k1 => k_asm); (case k2 => k_asm); (case k3 => k_asm); (case k4 => k_asm); (case k5 => k_asm); (case kK => first | exact rfl | assumption); (case kd => ktr_room); (case ku => ktr_units)); intro t9 h9 tk9 F9 N9; (try dsimp only); (try k_fold)))
local macro_rules | `(tactic| walk_at "call ref") => `(tactic| (k_here; k_dflt (refine' tail_c _ _ ?k0 ?k1 ?k2 ?k3 ?k4 ?k5 ?kK ?kd ?ku ?_; (case k0 => omega); (case k1 => k_asm); (case k2 => k_asm); (case k3 => k_asm); (case k4 => k_asm); (case k5 => k_asm); (case kK => first | exact rfl | assumption); (case kd => ktr_room); (case ku => ktr_units)); intro t9 h9 tk9 F9 N9; (try dsimp only); (try k_fold)))
local macro_rules | `(tactic| walk_at "binaryOp Add ref ref") => `(tactic| (k_here; (with_unfolding_all refine' cat_lists ?k1 ?k2 ?k3 ?k4 ?k5 ?_); (case k1 => assumption); (case k2 => assumption); (case k3 => is_list); (case k4 => is_list); (case k5 => (simp only [List.length_cons, List.length_nil]; omega)); intro D' h' F' N' l1))
set_option maxHeartbeats 8000000 in
theorem chain_c (x : Str) (tx : Tok) (hx : x.length ≤ 24)
    (B : Below A₀ base outer h₀) (F : Fr h₀ L s.heap m) (X : (hd.heap_39 w.params).In h₀) (N : News h₀ L s.heap news) (T : Top p loose mean mg mb h₀) (hk : cs.kind = .function) (hdp : dp + 4 < recursionLimit) (hun : un + 300 < cLine)
    (ret : ∀ l r vs n ts rest t h' tk', Fr h₀ L h' m → News h₀ L h' ((r, ({ cls := .type "tuple", data := .seq #[.ref l, .str rest t] } : Obj)) :: (l, listOf (List.toArray vs) n) :: news) → StrsAre vs ts → ChainI (toL x) 12 (ts.map toL) (toL rest) → (∀ p ∈ news, p.1 < l) → l < r → Q (.ref r) { s with heap := h', toks := tk' }) :
    wpAny (model prog w) (ktrTop dp un gd cn cs L a ccd cl outer) (call (.ref 112) [.str x tx]) Q E s := by
  refine with_row ?_
  k_fill
  intro _ _
  w_on
  refine wpAny_call ?_
  k_dflt cell_enter
  rename_i g L1 h1 FG F1 N1 B1 X1 T1
  replace F1 : Fr g L1 h1 (fun y => List.lookup y [(Str.ofString "name", Value.str x tx)]) := F1
  k_steps
  refine unhold ?_
  rename Fr _ _ _ _ => F2
  rename News _ _ _ _ => N2
  rename IsRange _ _ _ _ _ _ _ _ => R2
  rename (∀ p ∈ news, _) => hlt
  rename_i l hA hB hC FA NA hD tkD t1 u1 v1 kA
  clear FA NA kA
  refine' rng 12 (σ := Addr × List Value × List Str × Nat × Str × Tok) (fun c => (c.1, listOf c.2.1.toArray c.2.2.2.1) :: news)
    (fun c => [(Str.ofString "tails", .ref c.1), (Str.ofString "rest", .str c.2.2.2.2.1 c.2.2.2.2.2)]) []
    (fun i c => StrsAre c.2.1 c.2.2.1 ∧ ChainI (toL x) i (c.2.2.1.map toL) (toL c.2.2.2.2.1) ∧ ∀ p ∈ news, p.1 < c.1) (l, [], [], 0, x, _) rfl R2 ?h1 (range_size 12) F2 N2 ?kk ?kp ?_ ?_
  case h1 => exact small_one (by omega) (by omega) (by omega) (by omega)
  case kk => kst_all
  case kp => exact ⟨.nil, ChainI.start (by rw [toL_len]; omega), hlt⟩
  · clear F2 N2 R2
    rintro ⟨l, vs, ts, n, rest, tr⟩ i t u h2 tk own hi hoff ⟨hvs, hI, hlt⟩ F2 N2
    dsimp only [kstB, Function.const, envOf] at hvs hI hlt hoff F2 N2
    simp only [Int.zero_add] at F2
    rw [List.cons_append] at N2
    have hvl := StrsAre.length hvs
    have hrl : rest.length ≤ 100 := by
      have h1 := hI.len
      rw [toL_len, toL_len] at h1
      omega
    have htl := hI.cnt
    rw [List.length_map] at htl
    k_steps
    · rename Fr _ _ _ _ => F10
      rename News _ _ _ _ => N10
      have hd := occ_cc (by assumption)
      refine unhold (rend (l, vs, ts, n, rest, tr) F10 N10 mem_left (fun p hp => .tail _ (mem_right p hp)) hoff (by kst_all) (by kst_same) ⟨hvs, hI.stay hd, hlt⟩)
    · rename Fr _ _ _ _ => F10
      rename News _ _ _ _ => N10
      have hd := occ_cc (by assumption)
      rename (∀ p ∈ _ :: _ :: (news ++ own), _) => hD
      refine unhold (rend (_, _, ofL (lastP (toL rest)) :: ts, _, ofL (qualL (toL rest)), _) F10 N10 sub3 ?_ ?_ (by kst_all) (by kst_same) ⟨StrsAre.cons _ _ hvs, ?_, ?_⟩)
      · exact fun p hp => .tail _ (.tail _ (.tail _ (mem_right _ hp)))
      · exact lt_off hoff (fun p hp => hD p (.tail _ (.tail _ (mem_right _ hp))))
      · exact hI.step hd
      · exact fun p hp => hD p (.tail _ (.tail _ (mem_left _ hp)))
  · clear F2 N2 R2
    rintro ⟨l, vs, ts, n, rest, tr⟩ u h2 tk ⟨hvs, hI, hlt⟩ F2 N2
    dsimp only [kstB, Function.const, envOf] at hvs hI hlt F2 N2
    k_steps
    rename News h₀ _ _ _ => NR
    rename (l < _ ∧ AllLt _ news) => hD
    exact ret _ _ _ _ _ _ _ _ _ (by assumption) NR hvs hI hlt hD.1
end
end Mine
end
section
open PySem PySem.W PyProof.Rows PySem.Calls
namespace Mine
section
variable {prog : Program} {w : World} {p : Program} {loose : List Str} {mean : ExcName → Option Value} {mg mb : Str → Option Value}
  {dp un : Nat} {gd : Option (List Code)} {cn : Str} {cs : Scope} {a : Addr} {ccd : Value} {cl : List (Str × Addr)} {outer : List Env} {A₀ : Around} {base h₀ : Heap} {L : Addr} {m : Str → Option Value} {news : List (Addr × Obj)} {s : Shared} {Q E : Value → Shared → Prop}
set_option maxHeartbeats 8000000 in
theorem fixed_c 
    (B : Below A₀ base outer h₀) (F : Fr h₀ L s.heap m) (X : (hd.heap_39 w.params).In h₀) (N : News h₀ L s.heap news) (T : Top p loose mean mg mb h₀) (hk : cs.kind = .function) (hdp : dp + 1 < recursionLimit) (hun : un + 8 < cLine)
    (ret : ∀ l vs n h' tk', Fr h₀ L h' m → News h₀ L h' ((l, listOf (List.toArray vs) n) :: news) → StrsAre vs fixedL → Q (.ref l) { s with heap := h', toks := tk' }) :
    wpAny (model prog w) (ktrTop dp un gd cn cs L a ccd cl outer) (call (.ref 77) []) Q E s := by
  refine with_row ?_
  k_fill
  intro _ _
  w_on
  refine wpAny_call ?_
  k_dflt cell_enter
  k_steps
  rename News h₀ _ _ _ => NR
  exact ret _ _ _ _ _ (by assumption) NR (.cons _ _ (.cons _ _ (.cons _ _ (.cons _ _ (.cons _ _ (.cons _ _ (.cons _ _ (.cons _ _ (.cons _ _ (.cons _ _ (.cons _ _ (.cons _ _ .nil))))))))))))
end
end Mine
end
section
open PySem PySem.W PyProof.Rows PySem.Calls
namespace Mine
section
variable {prog : Program} {w : World} {p : Program} {loose : List Str} {mean : ExcName → Option Value} {mg mb : Str → Option Value}
  {dp un : Nat} {gd : Option (List Code)} {cn : Str} {cs : Scope} {a : Addr} {ccd : Value} {cl : List (Str × Addr)} {outer : List Env} {A₀ : Around} {base h₀ : Heap} {L : Addr} {m : Str → Option Value} {news : List (Addr × Obj)} {s : Shared} {Q E : Value → Shared → Prop}
local macro_rules | `(tactic| walk_at "exec For Name Call cons nil") => `(tactic| (k_here; (rename Fr _ _ _ _ => lF'); (with_unfolding_all refine' For_invVF lF' ?k1 ?k2 ?_; (case k1 => exact rfl); (case k2 => exact rfl); k_whole)))
local macro_rules | `(tactic| walk_at "pyIter ref") => `(tactic| (k_here; refine hold ?_))
local macro_rules | `(tactic| walk_at "REnd") => `(tactic| (k_here; refine hold ?_))
local macro_rules | `(tactic| walk_at "RPost") => `(tactic| (dsimp only [RPost]))
local macro_rules | `(tactic| walk_at "call ref") => `(tactic| (k_here; k_dflt (refine' fixed_c ?k1 ?k2 ?k3 ?k4 ?k5 ?kK ?kd ?ku ?_; (case k1 => k_asm); (case k2 => k_asm); (case k3 => k_asm); (case k4 => k_asm); (case k5 => k_asm); (case kK => first | exact rfl | assumption); (case kd => ktr_room); (case ku => ktr_units)); intro l9 vs9 n9 h9 tk9 F9 N9 hs9; (try dsimp only); (try k_fold)))
local macro_rules | `(tactic| walk_at "subscriptTail Name Name ref int") => `(tactic| (k_here; k_dflt (refine' strs_item ?k1 ?k2 ?k3 ?k4 ?k5 ?_ ?k6; (case k1 => is_list); (case k2 => assumption); (case k3 => assumption); (case k4 => assumption); (case k5 => decide); (case k6 => with_unfolding_all rfl)); intro t9))
set_option maxHeartbeats 8000000 in
theorem name_c (l : Addr) (vsc : List Value) (ns : List Int) (k : Int) (tk₀ : Tok) (h0 : 0 ≤ k) (h12 : k < 12) (hl : base.IsList l vsc.toArray) (hi : IntsAre vsc ns) (hn : ns.length ≤ 63)
    (B : Below A₀ base outer h₀) (F : Fr h₀ L s.heap m) (X : (hd.heap_39 w.params).In h₀) (N : News h₀ L s.heap news) (T : Top p loose mean mg mb h₀) (hk : cs.kind = .function) (hdp : dp + 2 < recursionLimit) (hun : un + 100 < cLine)
    (ret : ∀ x t h' tk', Fr h₀ L h' m → News h₀ L h' news → x.length ≤ 12 → okL (toL x) → Q (.str x t) { s with heap := h', toks := tk' }) :
    wpAny (model prog w) (ktrTop dp un gd cn cs L a ccd cl outer) (call (.ref 84) [.ref l, .int k tk₀]) Q E s := by
  refine with_row ?_
  k_fill
  intro _ _
  w_on
  refine wpAny_call ?_
  k_dflt cell_enter
  obtain ⟨y, hy, hyl, hyo⟩ := fixed_get h0 h12
  k_steps
  · rename News h₀ _ _ _ => NR
    exact ret _ _ _ _ (by assumption) (fun p hp => NR p (.tail _ hp)) hyl hyo
  refine unhold ?_
  rename Fr _ _ _ _ => F2
  rename News _ _ _ _ => N2
  rename IsRange _ _ _ _ _ _ _ _ => R2
  have hm0 : 0 ≤ (ns.getD k.toNat 0).fmod 11 := Int.fmod_nonneg_of_pos _ (by decide)
  have hm1 : (ns.getD k.toNat 0).fmod 11 < 11 := Int.fmod_lt_of_pos _ (by decide)
  refine' rng ((ns.getD k.toNat 0).fmod 11 - 0).toNat (σ := Str × Tok × Int × Tok) (Function.const _ _)
    (fun c => [(Str.ofString "name", .str c.1 c.2.1), (Str.ofString "number", .int c.2.2.1 c.2.2.2)]) []
    (fun i c => c.1.length ≤ i ∧ okL (toL c.1)) (Str.ofString "", _, _, _) rfl R2 ?h1 (rangeSize_nat _ _) F2 N2 ?kk ?kp ?_ ?_
  case h1 => exact small_one (by omega) (by omega) (by omega) (by omega)
  case kk => kst_all
  case kp => exact ⟨(by decide +kernel : (Str.ofString "").length ≤ 0), by rw [empty_toL]; exact fun _ h => nomatch h⟩
  · clear F2 N2 R2
    rintro ⟨x, tx, num, tn⟩ i t u h2 tk own hii hoff ⟨hxl, hxo⟩ F2 N2
    dsimp only [kstB, Function.const, envOf] at hxl hxo hoff F2 N2
    simp only [Int.zero_add] at F2
    k_steps
    rename Fr _ _ _ _ => F10
    rename News _ _ _ _ => N10
    exact unhold (rend (_, _, _, _) F10 N10 mem_left mem_right hoff (by kst_all) (by kst_same) ⟨by dsimp only; omega, hxo.app (menu_ok _)⟩)
  · clear F2 N2 R2
    rintro ⟨x, tx, num, tn⟩ u h2 tk ⟨hxl, hxo⟩ F2 N2
    dsimp only [kstB, Function.const, envOf] at hxl hxo F2 N2
    k_steps
    exact ret _ _ _ _ (by assumption) (by assumption) (by omega) hxo
end
end Mine
end
section
open PySem PySem.W PyProof.Rows PySem.Calls
namespace Mine
local macro_rules | `(tactic| walk_at "exec For Name Call cons nil") => `(tactic| (k_here; (rename Fr _ _ _ _ => lF'); (with_unfolding_all refine' For_invVF lF' ?k1 ?k2 ?_; (case k1 => exact rfl); (case k2 => exact rfl); k_whole)))
local macro_rules | `(tactic| walk_at "pyIter ref") => `(tactic| (k_here; refine hold ?_))
local macro_rules | `(tactic| walk_at "REnd") => `(tactic| (k_here; refine hold ?_))
local macro_rules | `(tactic| walk_at "RPost") => `(tactic| (dsimp only [RPost]))
local macro_rules | `(tactic| walk_at "call ref") => `(tactic| (k_here; k_dflt (refine' is_cut_c _ _ ?k0 ?ko ?k1 ?k2 ?k3 ?k4 ?k5 ?kK ?kd ?ku ?_; (case k0 => omega); (case ko => assumption); (case k1 => k_asm); (case k2 => k_asm); (case k3 => k_asm); (case k4 => k_asm); (case k5 => k_asm); (case kK => first | exact rfl | assumption); (case kd => ktr_room); (case ku => ktr_units)); intro h9 tk9 F9 N9; (try dsimp only); (try k_fold)))
local macro_rules | `(tactic| walk_at "call ref") => `(tactic| (k_here; k_dflt (refine' cut_c _ _ ?k0 ?k1 ?k2 ?k3 ?k4 ?k5 ?kK ?kd ?ku ?_; (case k0 => omega); (case k1 => k_asm); (case k2 => k_asm); (case k3 => k_asm); (case k4 => k_asm); (case k5 => k_asm); (case kK => first | exact rfl | assumption); (case kd => ktr_room); (case ku => ktr_units)); intro l9 r9 vs9 n9 t9 u9 h9 tk9 F9 N9 hs9 hlt9 hlr9; (have hvl9 := Nat.le_trans (Nat.le_of_eq (StrsAre.length hs9)) (parts_few24 (by rw [toL_len]; omega))); (try dsimp only); (try k_fold)))
local macro_rules | `(tactic| walk_at "call ref") => `(tactic| (k_here; k_dflt (refine' chain_c _ _ ?k0 ?k1 ?k2 ?k3 ?k4 ?k5 ?kK ?kd ?ku ?_; (case k0 => omega); (case k1 => k_asm); (case k2 => k_asm); (case k3 => k_asm); (case k4 => k_asm); (case k5 => k_asm); (case kK => first | exact rfl | assumption); (case kd => ktr_room); (case ku => ktr_units)); intro l9 r9 vs9 n9 ts9 rest9 t9 h9 tk9 F9 N9 hs9 hI9 hlt9 hlr9; (try dsimp only); (try k_fold)))
local macro_rules | `(tactic| walk_at "call ref") => `(tactic| (k_here; k_dflt (refine' name_c _ _ _ _ _ ?k6 ?k7 ?k8 ?k9 ?k10 ?k1 ?k2 ?k3 ?k4 ?k5 ?kK ?kd ?ku ?_; (case k6 => omega); (case k7 => omega); (case k8 => assumption); (case k9 => assumption); (case k10 => omega); (case k1 => k_asm); (case k2 => k_asm); (case k3 => k_asm); (case k4 => k_asm); (case k5 => k_asm); (case kK => first | exact rfl | assumption); (case kd => ktr_room); (case ku => ktr_units)); intro x9 t9 h9 tk9 F9 N9 hxl9 hxo9; (have hcc9 := cc_len); (have hal9 := above_len (toL x9) (by rw [toL_len]; omega)); (have hwl9 := wholeS_len (x := x9) (by omega)); (have hwo9 := wholeS_ok hxo9); (have hll9 := lastP_le (toL x9)); (rw [← ofL_len (lastP (toL x9)), toL_len] at hll9); (try dsimp only); (try k_fold)))
local macro_rules | `(tactic| walk_at "compareOp NotEq ref ref") => `(tactic| (k_here; refine hold ?_))
local macro_rules | `(tactic| walk_at "compareOp NotEq ref ref") => `(tactic| (k_here; (rename StrsAre _ (List.map ofL (partsL _)) => hsP'); (rename ChainI _ _ _ _ => hCh'); (rename dc _ = false => hdc'); (have q' := chain_rel hCh' hdc'); k_dflt (refine' pairS_ne ?N ?a ?b ?c ?d ?e (strs_drop hsP') ⟨q'.1, rfl⟩ ⟨drop_ok ?f, rest_ok ?g q'.2⟩ ?u ?_; (case N => k_asm); (case a => k_mem); (case b => k_mem); (case c => assumption); (case d => k_mem); (case e => k_mem); (case f => assumption); (case g => assumption); (case u => units_room))))
local macro_rules | `(tactic| walk_at "compareOp NotEq ref ref") => `(tactic| (k_here; k_dflt (refine' pairS_ne ?N ?a ?b ?c ?d ?e ?f ?q ?ok ?u ?_; (case N => k_asm); (case a => k_mem); (case b => k_mem); (case c => assumption); (case d => k_mem); (case e => k_mem); (case f => assumption); (case q => exact chain_abs (by assumption) (by assumption)); (case ok => exact ⟨parts_ok (by assumption), by decide +kernel⟩); (case u => units_room))))
local macro_rules | `(tactic| walk_at "subscriptTail Name Slice ref ref") => `(tactic| (k_here; k_dflt (refine' kmk_slice_lit ?F ?N ?l ?p ?q ?e ?_ ?s ?t ?z; (case F => k_asm); (case N => k_asm); (case l => is_list); (case p => kmk_part); (case q => kmk_part); (case e => first | exact pick_butLast _ | exact pick_from _ 1); (case s => with_unfolding_all rfl); (case t => kmk_pure); (case z => (simp only [List.size_toArray, List.length_map, List.length_range, PySem.sizeLine_eq]; omega))); intro D' h' F' N' l1))
local macro_rules | `(tactic| walk_at "eval ListComp") => `(tactic| (k_here; k_dflt (refine LCg.ListComp_U (F₀ := by k_asm) (by with_unfolding_all rfl) (by decide) (by rfl) (by decide) (by rfl) ?_)))
local macro_rules | `(tactic| walk_at "CompSrc") => `(tactic| (k_dflt (refine LCg.CompSrc.ledger (by rfl) (by k_asm) (by k_asm) (by k_mem) (by rw [PySem.sizeLine_eq, List.size_toArray]; omega) ?_; intro g'; (refine' strs_comp (fun y => Str.ofString "::" ++ y) (by assumption) (fun y' hy' => str_le (by rw [toL_len]; omega) hy') (Or.inr ⟨_, by k_mem, rfl, _, rfl⟩) (fun y' t' I' oI' C' oC' D' m' ys' h' tk' E' hk' hC' hx' F' N' off' ne' => ?_) (fun ys' hys' => ?_)); (all_goals (try (simp only [LCg.Off3, and_true] at off'))); kcf_last)))
local macro_rules | `(tactic| walk_at "subscriptTail Name Constant ref int") => `(tactic| (k_here; k_dflt (refine' strs_item ?k1 ?k2 ?k3 ?k4 ?k5 ?_ ?k6; (case k1 => is_list); (case k2 => assumption); (case k4 => exact (chain_rel (by assumption) (by assumption)).2); (case k3 => decide); (case k5 => exact Nat.le_trans (parts_few24 (by rw [toL_len]; omega)) (by decide)); (case k6 => with_unfolding_all rfl)); intro t9))
local macro_rules | `(tactic| walk_at "subscriptTail Name UnaryOp ref int") => `(tactic| (k_here; k_dflt (refine' strs_last ?k1 ?k2 ?k3 ?k4 ?_ ?k6; (case k1 => is_list); (case k2 => assumption); (case k3 => exact parts_last _); (case k4 => exact Nat.le_trans (parts_few (by omega)) (by decide)); (case k6 => with_unfolding_all rfl)); intro t9))
local macro_rules | `(tactic| walk_at "TEl") => `(tactic| exact ⟨_, _, rfl, rfl⟩)
local macro_rules | `(tactic| walk_at "call builtin:str.join") => `(tactic| (k_here; k_dflt (refine' join_whole ?x ?l ?i ?_; (case i => assumption); (case x => omega); (case l => first | is_list | exact News.isList (by k_asm) (by k_mem))); intro t9 k9))
local macro_rules | `(tactic| walk_at "call builtin:str.join") => `(tactic| (k_here; k_dflt (refine' join_above ?x ?l ?i ?_; (case l => first | is_list | exact News.isList (by k_asm) (by k_mem)); (case i => exact strs_butLast (by assumption)); (case x => omega)); intro t9 k9))
local macro_rules | `(tactic| walk_at "binaryOp Add str str") => `(tactic| (k_here; (refine KOpn.add (by omega) ?_); intro t9 k9 hl9))
local macro_rules | `(tactic| walk_at "compareOp NotEq str str") => `(tactic| (k_here; k_dflt (refine' ne_same ?e ?_; (case e => first | exact full_root' (by assumption) | exact full_other' (by assumption)))))
local macro_rules | `(tactic| walk_at "call ref") => `(tactic| (k_here; k_dflt (refine' split_c _ _ ?k0 ?k1 ?k2 ?k3 ?k4 ?k5 ?kK ?kd ?ku ?_; (case k0 => omega); (case k1 => k_asm); (case k2 => k_asm); (case k3 => k_asm); (case k4 => k_asm); (case k5 => k_asm); (case kK => first | exact rfl | assumption); (case kd => ktr_room); (case ku => ktr_units)); intro r9 o9 h9 tk9 F9 N9 hlt9 ho9; (try dsimp only); (try k_fold)))
local macro_rules | `(tactic| walk_at "call ref") => `(tactic| (k_here; k_dflt (refine' element_c _ _ ?k0 ?k1 ?k2 ?k3 ?k4 ?k5 ?kK ?kd ?ku ?_; (case k0 => omega); (case k1 => k_asm); (case k2 => k_asm); (case k3 => k_asm); (case k4 => k_asm); (case k5 => k_asm); (case kK => first | exact rfl | assumption); (case kd => ktr_room); (case ku => ktr_units)); intro r9 o9 h9 tk9 F9 N9 hlt9 ho9; (try dsimp only); (try k_fold)))
local macro_rules | `(tactic| walk_at "compareOp NotEq ref ref") => `(tactic| (k_here; k_dflt (refine' elem_ne ?N ?a ?b ?c ?d ?ok ?u ?_; (case N => k_asm); (case a => k_mem); (case b => assumption); (case c => k_mem); (case d => assumption); (case ok => assumption); (case u => units_room))))
local macro_rules | `(tactic| walk_at "LPost") => `(tactic| (dsimp only [LPost]))
local macro_rules | `(tactic| walk_at "LEnd") => `(tactic| (k_here; refine hold ?_))
set_option maxHeartbeats 3000000 in
theorem law_holds : PySem.Challenge.rw_np0126_01.Holds := hd (by
  k_go0
  all_goals try k_fold
  k_steps
  refine unhold ?_
  rename Fr _ _ _ (fun x => _) => F2
  rename News _ _ _ [] => N2
  rename IsRange _ _ _ _ _ _ _ _ => R2
  refine' rng 12 (σ := Unit) (fun _ => []) (fun _ => []) [Str.ofString "name", Str.ofString "parts", Str.ofString "is_absolute", Str.ofString "ahead", Str.ofString "last", Str.ofString "tails", Str.ofString "rest", Str.ofString "whole", Str.ofString "above", Str.ofString "asked"]
    (fun _ _ => True) () rfl R2 ?h1 (range_size 12) F2 N2 ?kk ?kp ?_ ?_
  case h1 => exact small_one (by omega) (by omega) (by omega) (by omega)
  case kk => exact fun _ h => nomatch h
  case kp => trivial
  · clear F2 N2 R2
    rintro ⟨⟩ i t u h2 tk own hi hoff - F2 N2
    dsimp only [kstB, Function.const, envOf] at hoff F2 N2
    simp only [Int.zero_add] at F2
    rw [List.nil_append] at N2
    ((k_steps))
    all_goals (
      refine unhold ?_
      rename Fr _ _ _ _ => F7
      rename News _ _ _ _ => N7
      refine' lst (n := 0) (vs := [_, _]) (fun v => ∃ y t, v = .str y t ∧ y.length ≤ 24 ∧ okL (toL y)) rfl F7 N7 (List.mem_cons_self ..) rfl rfl (asked_ok (by assumption) (by assumption)) ?_ ?_
      · clear F7 N7
        rintro _ I it h7 tk7 ⟨y, ty, rfl, hyl, hyo⟩ hbel F8 N8
        k_steps
        rename Fr _ _ _ _ => F9
        rename News _ _ _ _ => N9
        refine unhold (lend F9 N9 (fun p hp => by repeat (first | exact hp | refine List.Mem.tail _ ?_)) ?_)
        (first | exact fun z hz => if_neg hz | kst_same)
      · clear F7 N7
        intro u7 h7 tk7 F8 N8
        k_steps
        rename Fr _ _ _ _ => F9
        rename News _ _ _ _ => N9
        refine unhold (rend () F9 N9 (fun _ h => nomatch h) (fun p hp => by repeat (first | exact hp | refine List.Mem.tail _ ?_)) hoff (fun _ h => nomatch h) ?_ trivial)
        (first | kst_same))
  · clear F2 N2 R2
    rintro ⟨⟩ u h2 tk - F2 N2
    dsimp only [kstB, Function.const, envOf] at F2 N2
    k_steps
    skip)
end Mine
end
theorem PySem.Challenge.cw_np0126_01_holds : PySem.Challenge.rw_np0126_01.Holds := by
  exact Mine.law_holds
