import PyProof.Rows.All
import Wide.All
import OpenK.AllK
import Wide.FinOn
import HandS.ForMost
import HandS.Deep
import HandS.Wide
import HandS.More
import HandS.NoneIn
import HandS.TupAny
import HandS.CallRecv
import HandS.Zip
import HandS.IsInst
import KE.KDictKeyed
import PySem.Challenge.RW_leadtimes_k49_whole_shifted_and_tilted
set_option Elab.async false
-- M3
set_option linter.all false
namespace LT
abbrev Ln := Rat × Rat
def place (l : Ln) (t : Rat) : Rat := l.1 + l.2 * t
def meetT (l m : Ln) : Rat := (m.1 - l.1) / (l.2 - m.2)
def ahead (f : Nat → Ln) (i j : Nat) (t : Rat) : Bool :=
  if place (f i) t = place (f j) t then (if (f i).2 = (f j).2 then decide (i < j) else decide ((f j).2 < (f i).2)) else decide (place (f j) t < place (f i) t)
theorem ahead_iff {f : Nat → Ln} {i j : Nat} {t : Rat} : ahead f i j t = true ↔ place (f j) t < place (f i) t ∨ (place (f i) t = place (f j) t ∧ ((f j).2 < (f i).2 ∨ ((f i).2 = (f j).2 ∧ i < j))) := by
  unfold ahead
  split
  · split <;> simp <;> grind
  · simp; grind
theorem ahead_irr {f : Nat → Ln} {i : Nat} {t : Rat} : ahead f i i t = false := by
  have h := @ahead_iff f i i t
  grind
theorem ahead_tot {f : Nat → Ln} {i j : Nat} {t : Rat} (h : i ≠ j) : ahead f i j t = !ahead f j i t := by
  have h1 := @ahead_iff f i j t
  have h2 := @ahead_iff f j i t
  generalize place (f i) t = a at *
  generalize place (f j) t = b at *
  generalize (f i).2 = c at *
  generalize (f j).2 = d at *
  cases e1 : ahead f i j t <;> cases e2 : ahead f j i t <;> grind
theorem ahead_trans {f : Nat → Ln} {i j k : Nat} {t : Rat} (h1 : ahead f i j t = true) (h2 : ahead f j k t = true) : ahead f i k t = true := by
  rw [ahead_iff] at *
  grind
def sent (m : Ln) (d : Rat) (l : Ln) : Ln := (l.1 + m.1 - (l.2 + m.2) * d, l.2 + m.2)
theorem place_sent (m : Ln) (d : Rat) (l : Ln) (t : Rat) : place (sent m d l) (t + d) = place l t + (m.1 + m.2 * t) := by
  unfold place sent
  grind
theorem meetT_sent (m : Ln) (d : Rat) (l k : Ln) (h : l.2 ≠ k.2) : meetT (sent m d l) (sent m d k) = meetT l k + d := by
  unfold meetT sent
  have h' : l.2 - k.2 ≠ 0 := by grind
  have e : l.2 + m.2 - (k.2 + m.2) = l.2 - k.2 := by grind
  simp only
  rw [e]
  grind
theorem ahead_sent (f : Nat → Ln) (m : Ln) (d : Rat) (i j : Nat) (t : Rat) : ahead (fun i => sent m d (f i)) i j (t + d) = ahead f i j t := by
  unfold ahead
  simp only [place_sent]
  have e1 : ∀ (a b c : Rat), (a + c = b + c) = (a = b) := by intro a b c; grind
  have e2 : ∀ (a b c : Rat), (a + c < b + c) = (a < b) := by intro a b c; grind
  simp only [e1, e2, sent]
/-- meeting's place -/
theorem place_meet {l k : Ln} (h : l.2 ≠ k.2) : place l (meetT l k) = place k (meetT l k) := by
  unfold place meetT
  have h' : l.2 - k.2 ≠ 0 := by grind
  grind
theorem place_lt {l k : Ln} {t : Rat} (h : l.2 < k.2) : place k t < place l t ↔ t < meetT l k := by
  have h' : 0 < k.2 - l.2 := by grind
  have e : l.2 - k.2 ≠ 0 := by grind
  have e2 : meetT l k * (l.2 - k.2) = k.1 - l.1 := by unfold meetT; grind
  unfold place
  generalize meetT l k = m at *
  constructor
  · intro q
    by_cases c : t < m
    · exact c
    · have : (t - m) * (k.2 - l.2) ≥ 0 := Rat.mul_nonneg (by grind) (by grind)
      grind
  · intro q
    have : (m - t) * (k.2 - l.2) > 0 := Rat.mul_pos (by grind) (by grind)
    grind

theorem place_eq {l k : Ln} {t : Rat} (h : l.2 ≠ k.2) : place l t = place k t ↔ t = meetT l k := by
  have e : l.2 - k.2 ≠ 0 := by grind
  have e2 : meetT l k * (l.2 - k.2) = k.1 - l.1 := by unfold meetT; grind
  unfold place
  generalize meetT l k = m at *
  constructor
  · intro q
    have : (t - m) * (l.2 - k.2) = 0 := by grind
    grind
  · intro q
    grind
theorem meet_symm {l k : Ln} (h : l.2 ≠ k.2) : meetT l k = meetT k l := by
  unfold meetT
  have e : l.2 - k.2 ≠ 0 := by grind
  have e' : k.2 - l.2 ≠ 0 := by grind
  grind
theorem place_gt {l k : Ln} {t : Rat} (h : l.2 < k.2) : place l t < place k t ↔ meetT l k < t := by
  have h1 := @place_lt l k t h
  have h2 := @place_eq l k t (by grind)
  grind
theorem place_par {l k : Ln} {t u : Rat} (h : l.2 = k.2) : (place l t < place k t ↔ place l u < place k u) ∧ (place l t = place k t ↔ place l u = place k u) := by
  unfold place
  rw [h]
  grind
theorem ahead_par {f : Nat → Ln} {i j : Nat} {t u : Rat} (h : (f i).2 = (f j).2) : ahead f i j t = ahead f i j u := by
  have h1 := @place_par (f i) (f j) t u h
  unfold ahead
  have h2 := @place_par (f j) (f i) t u h.symm
  grind
/-- of unlike slopes: ahead by the meeting's time -/
theorem ahead_flat {f : Nat → Ln} {i j : Nat} {t : Rat} (h : (f i).2 < (f j).2) : ahead f i j t = decide (t < meetT (f i) (f j)) := by
  have h1 := @place_lt (f i) (f j) t h
  have h2 := @place_eq (f i) (f j) t (by grind)
  have h3 := @place_gt (f i) (f j) t h
  have h4 := @ahead_iff f i j t
  cases e : ahead f i j t <;> grind
theorem ahead_steep {f : Nat → Ln} {i j : Nat} {t : Rat} (h : (f j).2 < (f i).2) : ahead f i j t = decide (meetT (f i) (f j) ≤ t) := by
  have h1 := @ahead_flat f j i t h
  have h2 := @ahead_tot f i j t (by intro e; subst e; grind)
  have h3 := @meet_symm (f i) (f j) (by grind)
  grind

theorem rne {a b : Rat} (h : ¬ a = b) : a < b ∨ b < a := by grind
/-! ### next changes -/
def nextC (f : Nat → Ln) (i j : Nat) (t : Rat) : Option Rat :=
  if (f i).2 ≠ (f j).2 ∧ t < meetT (f i) (f j) then some (meetT (f i) (f j)) else none
theorem nextC_sent (f : Nat → Ln) (m : Ln) (d : Rat) (i j : Nat) (t : Rat) : nextC (fun i => sent m d (f i)) i j (t + d) = (nextC f i j t).map (· + d) := by
  unfold nextC
  by_cases h : (f i).2 = (f j).2
  · have : (sent m d (f i)).2 = (sent m d (f j)).2 := by simp [sent, h]
    simp [h, this]
  · have h' : (sent m d (f i)).2 ≠ (sent m d (f j)).2 := by simp [sent]; grind
    have e2 : ∀ (a b c : Rat), (a + c < b + c) = (a < b) := by intro a b c; grind
    simp only [meetT_sent m d _ _ h, e2]
    by_cases c : t < meetT (f i) (f j)
    · rw [if_pos ⟨h', c⟩, if_pos ⟨h, c⟩]; rfl
    · rw [if_neg (fun z => c z.2), if_neg (fun z => c z.2)]; rfl
def till (f : Nat → Ln) (a b : Nat) (t : Rat) : Option Rat := if ahead f b a t then some t else nextC f a b t
theorem till_sent (f : Nat → Ln) (m : Ln) (d : Rat) (i j : Nat) (t : Rat) : till (fun i => sent m d (f i)) i j (t + d) = (till f i j t).map (· + d) := by
  unfold till
  rw [ahead_sent, nextC_sent]
  split <;> rfl
theorem till_ge {f : Nat → Ln} {a b : Nat} {t u : Rat} (h : till f a b t = some u) : t ≤ u := by
  unfold till nextC at h
  grind
/-- a till is as it was as long as it isn't over -/
theorem till_keep {f : Nat → Ln} {a b : Nat} {t u : Rat} (hab : a ≠ b) (h1 : t ≤ u) (h2 : ∀ x, till f a b t = some x → u ≤ x) : till f a b u = till f a b t := by
  have ht := @ahead_tot f b a t (fun e => hab e.symm)
  have hu := @ahead_tot f b a u (fun e => hab e.symm)
  rcases Classical.em ((f a).2 = (f b).2) with e | e
  · have p := @ahead_par f a b t u e
    unfold till nextC at *
    grind
  · rcases rne e with c | c
    · have q1 := @ahead_flat f a b t c
      have q2 := @ahead_flat f a b u c
      unfold till nextC at *
      grind
    · have q1 := @ahead_steep f a b t c
      have q2 := @ahead_steep f a b u c
      unfold till nextC at *
      grind
/-- who is overdue -/
theorem over_steep {f : Nat → Ln} {a b : Nat} {t u : Rat} (hab : a ≠ b) (h : ahead f a b t = true) (htu : t ≤ u) (h2 : ahead f b a u = true) : (f a).2 < (f b).2 := by
  have ht := @ahead_tot f b a t (fun e => hab e.symm)
  have hu := @ahead_tot f b a u (fun e => hab e.symm)
  rcases Classical.em ((f a).2 = (f b).2) with e | e
  · have p := @ahead_par f a b t u e
    grind
  · rcases rne e with c | c
    · exact c
    · have q1 := @ahead_steep f a b t c
      have q2 := @ahead_steep f a b u c
      grind
/-- at its till a pair is over -/
theorem till_over {f : Nat → Ln} {a b : Nat} {t u : Rat} (hab : a ≠ b) (h : till f a b t = some u) : ahead f b a u = true := by
  have ht := @ahead_tot f b a t (fun e => hab e.symm)
  have hu := @ahead_tot f b a u (fun e => hab e.symm)
  rcases Classical.em ((f a).2 = (f b).2) with e | e
  · unfold till nextC at *
    grind
  · rcases rne e with c | c
    · have q1 := @ahead_flat f a b t c
      have q2 := @ahead_flat f a b u c
      unfold till nextC at *
      grind
    · have q1 := @ahead_steep f a b t c
      have q2 := @ahead_steep f a b u c
      unfold till nextC at *
      grind

theorem getD_eq {α : Type} {l : List α} {i : Nat} {d : α} (h : i < l.length) : l.getD i d = l[i] := by simp [List.getD, List.getElem?_eq_getElem h]
/-! ### orders -/
def pos (f : Nat → Ln) (t : Rat) (r : Nat) (found : List Nat) : Nat → Nat
  | 0 => 0
  | k + 1 => if ahead f r (found.getD k 0) t then pos f t r found k else k + 1
def ins (f : Nat → Ln) (t : Rat) (found : List Nat) (r : Nat) : List Nat :=
  found.take (pos f t r found found.length) ++ [r] ++ found.drop (pos f t r found found.length)
def order (n : Nat) (f : Nat → Ln) (t : Rat) : List Nat := (List.range n).foldl (ins f t) []
theorem pos_le (f : Nat → Ln) (t : Rat) (r : Nat) (found : List Nat) : ∀ k, pos f t r found k ≤ k
  | 0 => Nat.le_refl _
  | k + 1 => by
    have ih := pos_le f t r found k
    unfold pos
    split <;> omega
theorem pos_sent (f : Nat → Ln) (m : Ln) (d t : Rat) (r : Nat) (found : List Nat) : ∀ k, pos (fun i => sent m d (f i)) (t + d) r found k = pos f t r found k
  | 0 => rfl
  | k + 1 => by
    have ih := pos_sent f m d t r found k
    unfold pos
    rw [ahead_sent, ih]
theorem order_sent (n : Nat) (f : Nat → Ln) (m : Ln) (d t : Rat) : order n (fun i => sent m d (f i)) (t + d) = order n f t := by
  unfold order
  congr 1
  funext found r
  unfold ins
  rw [pos_sent]
theorem pos_par {f : Nat → Ln} {n r : Nat} {t u : Rat} (h : ∀ i j, i < n → j < n → ahead f i j t = ahead f i j u) (hr : r < n) {found : List Nat} (hf : ∀ x ∈ found, x < n) : ∀ k, k ≤ found.length → pos f t r found k = pos f u r found k
  | 0, _ => rfl
  | k + 1, hk => by
    have ih := pos_par h hr hf k (by omega)
    have hm : found.getD k 0 < n := by
      rw [getD_eq (by omega)]
      exact hf _ (List.getElem_mem _)
    unfold pos
    rw [h r _ hr hm, ih]
theorem ins_perm (f : Nat → Ln) (t : Rat) (found : List Nat) (r : Nat) : (ins f t found r).Perm (r :: found) := by
  unfold ins
  have h := @List.perm_middle _ r (found.take (pos f t r found found.length)) (found.drop (pos f t r found found.length))
  rw [List.take_append_drop] at h
  rw [List.append_assoc]
  exact h
theorem fold_perm (f : Nat → Ln) (t : Rat) : ∀ (l acc : List Nat), (l.foldl (ins f t) acc).Perm (l ++ acc)
  | [], acc => List.Perm.refl _
  | r :: l, acc => by
    have h1 := fold_perm f t l (ins f t acc r)
    refine h1.trans ?_
    have h2 := (ins_perm f t acc r).append_left l
    exact h2.trans List.perm_middle
theorem order_perm (n : Nat) (f : Nat → Ln) (t : Rat) : (order n f t).Perm (List.range n) := by
  have h := fold_perm f t (List.range n) []
  rw [List.append_nil] at h
  exact h
theorem order_len (n : Nat) (f : Nat → Ln) (t : Rat) : (order n f t).length = n := by
  rw [(order_perm n f t).length_eq, List.length_range]
theorem order_mem {n : Nat} {f : Nat → Ln} {t : Rat} {x : Nat} : x ∈ order n f t ↔ x < n := by
  rw [(order_perm n f t).mem_iff, List.mem_range]
theorem order_nodup (n : Nat) (f : Nat → Ln) (t : Rat) : (order n f t).Nodup := (order_perm n f t).nodup_iff.mpr List.nodup_range
theorem order_par {f : Nat → Ln} {n : Nat} {t u : Rat} (h : ∀ i j, i < n → j < n → ahead f i j t = ahead f i j u) : order n f t = order n f u := by
  have key : ∀ (l acc : List Nat), (∀ x ∈ l, x < n) → (∀ x ∈ acc, x < n) → l.foldl (ins f t) acc = l.foldl (ins f u) acc := by
    intro l
    induction l with
    | nil => intros; rfl
    | cons r l ih =>
      intro acc hl ha
      have hr := hl r List.mem_cons_self
      have e : ins f t acc r = ins f u acc r := by
        unfold ins
        rw [pos_par h hr ha _ (Nat.le_refl _)]
      show l.foldl (ins f t) (ins f t acc r) = l.foldl (ins f u) (ins f u acc r)
      rw [e]
      refine ih _ (fun x hx => hl x (List.mem_cons_of_mem _ hx)) fun x hx => ?_
      have := (ins_perm f u acc r).mem_iff.mp hx
      rcases List.mem_cons.mp this with rfl | q
      · exact hr
      · exact ha x q
  exact key _ _ (fun x hx => List.mem_range.mp hx) (fun x hx => nomatch hx)
theorem pos_spec {f : Nat → Ln} {t : Rat} {r : Nat} {found : List Nat} : ∀ k, k ≤ found.length → (∀ j, pos f t r found k ≤ j → j < k → ahead f r (found.getD j 0) t = true) ∧ (0 < pos f t r found k → ahead f r (found.getD (pos f t r found k - 1) 0) t = false)
  | 0, _ => ⟨fun j h1 h2 => absurd h2 (Nat.not_lt_zero _), fun h => absurd h (Nat.lt_irrefl _)⟩
  | k + 1, hk => by
    obtain ⟨i1, i2⟩ := @pos_spec f t r found k (by omega)
    by_cases c : ahead f r (found.getD k 0) t = true
    · have e : pos f t r found (k + 1) = pos f t r found k := by
        show (if ahead f r (found.getD k 0) t then pos f t r found k else k + 1) = _
        rw [if_pos c]
      rw [e]
      refine ⟨fun j h1 h2 => ?_, i2⟩
      by_cases hj : j = k
      · rw [hj]; exact c
      · exact i1 j h1 (by omega)
    · have e : pos f t r found (k + 1) = k + 1 := by
        show (if ahead f r (found.getD k 0) t then pos f t r found k else k + 1) = _
        rw [if_neg c]
      rw [e]
      refine ⟨fun j h1 h2 => by omega, fun _ => ?_⟩
      simpa using c
def Srt (f : Nat → Ln) (t : Rat) (l : List Nat) : Prop := l.Pairwise fun a b => ahead f a b t = true
theorem Srt.at {f : Nat → Ln} {t : Rat} {l : List Nat} (h : Srt f t l) {i j : Nat} (hij : i < j) (hj : j < l.length) : ahead f (l.getD i 0) (l.getD j 0) t = true := by
  have := List.pairwise_iff_getElem.mp h i j (by omega) hj hij
  rw [getD_eq (by omega), getD_eq hj]
  exact this
theorem ins_srt {f : Nat → Ln} {t : Rat} {found : List Nat} {r : Nat} (h : Srt f t found) (hr : r ∉ found) : Srt f t (ins f t found r) := by
  obtain ⟨p1, p2⟩ := @pos_spec f t r found found.length (Nat.le_refl _)
  have p3 := pos_le f t r found found.length
  unfold ins
  generalize pos f t r found found.length = p at *
  unfold Srt
  rw [List.append_assoc, List.pairwise_append]
  refine ⟨List.Pairwise.sublist (List.take_sublist _ _) h, ?_, ?_⟩
  · rw [List.singleton_append, List.pairwise_cons]
    refine ⟨fun x hx => ?_, List.Pairwise.sublist (List.drop_sublist _ _) h⟩
    obtain ⟨k, hk, e⟩ := List.getElem_of_mem hx
    rw [List.length_drop] at hk
    rw [List.getElem_drop] at e
    have := p1 (p + k) (by omega) (by omega)
    rw [getD_eq (by omega), e] at this
    exact this
  · intro a ha b hb
    obtain ⟨k, hk, e⟩ := List.getElem_of_mem ha
    rw [List.length_take] at hk
    rw [List.getElem_take] at e
    have hp : 0 < p := by omega
    have q := p2 hp
    have mem : found.getD (p - 1) 0 ∈ found := by
      rw [getD_eq (by omega)]
      exact List.getElem_mem _
    have q2 : ahead f (found.getD (p - 1) 0) r t = true := by
      have := @ahead_tot f (found.getD (p - 1) 0) r t (fun z => hr (z ▸ mem))
      rw [this, q]; rfl
    have qa : ahead f a r t = true := by
      by_cases hk1 : k = p - 1
      · have : a = found.getD (p - 1) 0 := by
          rw [getD_eq (by omega)]
          subst hk1
          exact e.symm
        rw [this]; exact q2
      · have h3 := h.at (i := k) (j := p - 1) (by omega) (by omega)
        rw [getD_eq (by omega), e] at h3
        exact ahead_trans h3 q2
    rw [List.singleton_append] at hb
    rcases List.mem_cons.mp hb with rfl | hb
    · exact qa
    · have hab : ∃ j, ∃ hj : j < found.length, p ≤ j ∧ found[j] = b := by
        obtain ⟨j, hj, e2⟩ := List.getElem_of_mem hb
        rw [List.length_drop] at hj
        rw [List.getElem_drop] at e2
        exact ⟨p + j, by omega, by omega, e2⟩
      obtain ⟨j, hj, hpj, e2⟩ := hab
      have h3 := h.at (i := k) (j := j) (by omega) hj
      rw [getD_eq (by omega), e, getD_eq hj, e2] at h3
      exact h3
theorem order_srt (n : Nat) (f : Nat → Ln) (t : Rat) : Srt f t (order n f t) := by
  have key : ∀ (l acc : List Nat), (l ++ acc).Nodup → Srt f t acc → Srt f t (l.foldl (ins f t) acc) := by
    intro l
    induction l with
    | nil => intro acc _ h; exact h
    | cons r l ih =>
      intro acc hn h
      have hn' : (l ++ (r :: acc)).Nodup := by
        refine (List.Perm.nodup_iff ?_).mp hn
        exact List.perm_middle.symm
      refine ih _ ((((ins_perm f t acc r).append_left l).nodup_iff).mpr hn') (ins_srt h ?_)
      intro hm
      have := List.nodup_append.mp hn
      exact this.2.2 r List.mem_cons_self r hm rfl
  exact key _ _ (by rw [List.append_nil]; exact List.nodup_range) List.Pairwise.nil
end LT

-- M4
set_option linter.all false
namespace LT
/-! ### leaders -/
def aheadAll (n : Nat) (f : Nat → Ln) (t : Rat) : Nat := (List.range (n - 1)).foldl (fun found r => if ahead f (r + 1) found t then r + 1 else found) 0
def better (f : Nat → Ln) (r found : Nat) : Bool := decide ((f r).2 < (f found).2) || (decide ((f r).2 = (f found).2) && decide ((f found).1 < (f r).1))
def firstL (n : Nat) (f : Nat → Ln) : Nat := (List.range (n - 1)).foldl (fun found r => if better f (r + 1) found then r + 1 else found) 0
def isLater (since : Option Rat) (t : Rat) : Bool := match since with
  | none => true
  | some s => decide (s < t)
def passed (n : Nat) (f : Nat → Ln) (ld : Nat) (since : Option Rat) : List Rat :=
  (List.range n).filterMap fun i => if (f ld).2 < (f i).2 ∧ isLater since (meetT (f ld) (f i)) = true then some (meetT (f ld) (f i)) else none
def earliest (ts : List Rat) : Rat := ts.foldl (fun found t => if t < found then t else found) (ts.headD 0)
def rowFrom (n : Nat) (f : Nat → Ln) : Nat → Nat × Option Rat → List (Nat × Option Rat)
  | 0, p => [p]
  | k + 1, p => if passed n f p.1 p.2 = [] then [p] else p :: rowFrom n f k (aheadAll n f (earliest (passed n f p.1 p.2)), some (earliest (passed n f p.1 p.2)))
def leaders (n : Nat) (f : Nat → Ln) : List (Nat × Option Rat) := if n = 0 then [] else rowFrom n f n (firstL n f, none)
def later (d : Rat) (p : Nat × Option Rat) : Nat × Option Rat := (p.1, p.2.map (· + d))

theorem add_lt (a b c : Rat) : (a + c < b + c) = (a < b) := by grind
theorem add_eq (a b c : Rat) : (a + c = b + c) = (a = b) := by grind
theorem add_le (a b c : Rat) : (a + c ≤ b + c) = (a ≤ b) := by grind
section
variable (n : Nat) (f : Nat → Ln) (m : Ln) (d : Rat)
theorem aheadAll_sent (t : Rat) : aheadAll n (fun i => sent m d (f i)) (t + d) = aheadAll n f t := by
  unfold aheadAll
  simp only [ahead_sent]
theorem sent_lt (i j : Nat) : ((sent m d (f i)).2 < (sent m d (f j)).2) = ((f i).2 < (f j).2) := by unfold sent; simp only [add_lt]
theorem sent_eq (i j : Nat) : ((sent m d (f i)).2 = (sent m d (f j)).2) = ((f i).2 = (f j).2) := by unfold sent; simp only [add_eq]
theorem better_sent (r q : Nat) : better (fun i => sent m d (f i)) r q = better f r q := by
  unfold better
  simp only [sent_lt, sent_eq]
  by_cases h : (f r).2 = (f q).2
  · have e : ((sent m d (f q)).1 < (sent m d (f r)).1) = ((f q).1 < (f r).1) := by unfold sent; simp only [h]; grind
    simp only [e]
  · simp only [h, decide_false, Bool.false_and]
theorem firstL_sent : firstL n (fun i => sent m d (f i)) = firstL n f := by
  unfold firstL
  simp only [better_sent]
theorem isLater_sent (s : Option Rat) (t : Rat) : isLater (s.map (· + d)) (t + d) = isLater s t := by
  cases s with
  | none => rfl
  | some s => simp only [isLater, Option.map_some, add_lt]
theorem passed_sent (ld : Nat) (s : Option Rat) : passed n (fun i => sent m d (f i)) ld (s.map (· + d)) = (passed n f ld s).map (· + d) := by
  unfold passed
  rw [List.map_filterMap]
  congr 1
  funext i
  simp only [sent_lt]
  by_cases h : (f ld).2 < (f i).2
  · rw [meetT_sent m d _ _ (by grind), isLater_sent]
    by_cases c : isLater s (meetT (f ld) (f i)) = true
    · rw [if_pos ⟨h, c⟩, if_pos ⟨h, c⟩]; rfl
    · rw [if_neg (fun z => c z.2), if_neg (fun z => c z.2)]; rfl
  · rw [if_neg (fun z => h z.1), if_neg (fun z => h z.1)]; rfl
end
theorem efold_sent (d : Rat) : ∀ (ts : List Rat) (x : Rat), (ts.map (· + d)).foldl (fun found t => if t < found then t else found) (x + d) = ts.foldl (fun found t => if t < found then t else found) x + d
  | [], x => rfl
  | t :: ts, x => by
    have ih := efold_sent d ts (if t < x then t else x)
    rw [List.map_cons, List.foldl_cons, List.foldl_cons, ← ih]
    congr 1
    simp only [add_lt]
    split <;> rfl
theorem earliest_sent (d : Rat) (ts : List Rat) (h : ts ≠ []) : earliest (ts.map (· + d)) = earliest ts + d := by
  unfold earliest
  cases ts with
  | nil => exact absurd rfl h
  | cons t ts => exact efold_sent d (t :: ts) t
theorem rowFrom_sent (n : Nat) (f : Nat → Ln) (m : Ln) (d : Rat) : ∀ (k : Nat) (p : Nat × Option Rat), rowFrom n (fun i => sent m d (f i)) k (later d p) = (rowFrom n f k p).map (later d)
  | 0, p => rfl
  | k + 1, p => by
    have e := passed_sent n f m d p.1 p.2
    unfold rowFrom
    show (if passed n (fun i => sent m d (f i)) p.1 (p.2.map (· + d)) = [] then _ else _ :: rowFrom n (fun i => sent m d (f i)) k (aheadAll n (fun i => sent m d (f i)) (earliest (passed n (fun i => sent m d (f i)) p.1 (p.2.map (· + d)))), some (earliest (passed n (fun i => sent m d (f i)) p.1 (p.2.map (· + d)))))) = _
    rw [e]
    by_cases c : passed n f p.1 p.2 = []
    · rw [c]; rfl
    · have c' : ¬ (passed n f p.1 p.2).map (· + d) = [] := by simpa using c
      rw [if_neg c, if_neg c', earliest_sent d _ c, aheadAll_sent]
      have ih := rowFrom_sent n f m d k (aheadAll n f (earliest (passed n f p.1 p.2)), some (earliest (passed n f p.1 p.2)))
      rw [List.map_cons, ← ih]
      rfl
theorem leaders_sent (n : Nat) (f : Nat → Ln) (m : Ln) (d : Rat) : leaders n (fun i => sent m d (f i)) = (leaders n f).map (later d) := by
  unfold leaders
  split
  · rfl
  · rw [firstL_sent]
    exact rowFrom_sent n f m d n (firstL n f, none)

/-! ### what a leader is -/
def Leads (n : Nat) (f : Nat → Ln) (p : Nat × Option Rat) : Prop := p.1 < n ∧ match p.2 with
  | none => ∀ i, i < n → (f p.1).2 < (f i).2 ∨ ((f p.1).2 = (f i).2 ∧ ((f i).1 < (f p.1).1 ∨ ((f i).1 = (f p.1).1 ∧ p.1 ≤ i)))
  | some t => ∀ i, i < n → i ≠ p.1 → ahead f p.1 i t = true
theorem aheadAll_spec (n : Nat) (f : Nat → Ln) (t : Rat) (hn : 0 < n) : Leads n f (aheadAll n f t, some t) := by
  have key : ∀ k, (List.range k).foldl (fun found r => if ahead f (r + 1) found t then r + 1 else found) 0 ≤ k ∧ ∀ i, i ≤ k → i ≠ (List.range k).foldl (fun found r => if ahead f (r + 1) found t then r + 1 else found) 0 → ahead f ((List.range k).foldl (fun found r => if ahead f (r + 1) found t then r + 1 else found) 0) i t = true := by
    intro k
    induction k with
    | zero => exact ⟨Nat.le_refl _, fun i hi hne => absurd (Nat.le_zero.mp hi) hne⟩
    | succ k ih =>
      rw [List.range_succ, List.foldl_append]
      simp only [List.foldl_cons, List.foldl_nil]
      generalize (List.range k).foldl (fun found r => if ahead f (r + 1) found t then r + 1 else found) 0 = q at *
      obtain ⟨i1, i2⟩ := ih
      by_cases c : ahead f (k + 1) q t = true
      · rw [if_pos c]
        refine ⟨Nat.le_refl _, fun i hi hne => ?_⟩
        by_cases e : i = q
        · rw [e]; exact c
        · exact ahead_trans c (i2 i (by omega) e)
      · rw [if_neg c]
        refine ⟨by omega, fun i hi hne => ?_⟩
        by_cases e : i = k + 1
        · have := @ahead_tot f q (k + 1) t (by omega)
          rw [e, this]
          simpa using c
        · exact i2 i (by omega) hne
  obtain ⟨k1, k2⟩ := key (n - 1)
  refine ⟨by show aheadAll n f t < n; unfold aheadAll; omega, fun i hi hne => k2 i (by omega) hne⟩
theorem better_iff {f : Nat → Ln} {r q : Nat} : better f r q = true ↔ (f r).2 < (f q).2 ∨ ((f r).2 = (f q).2 ∧ (f q).1 < (f r).1) := by simp [better]
theorem firstL_spec (n : Nat) (f : Nat → Ln) (hn : 0 < n) : Leads n f (firstL n f, none) := by
  have key : ∀ k, (List.range k).foldl (fun found r => if better f (r + 1) found then r + 1 else found) 0 ≤ k ∧ ∀ i, i ≤ k → (f ((List.range k).foldl (fun found r => if better f (r + 1) found then r + 1 else found) 0)).2 < (f i).2 ∨ ((f ((List.range k).foldl (fun found r => if better f (r + 1) found then r + 1 else found) 0)).2 = (f i).2 ∧ ((f i).1 < (f ((List.range k).foldl (fun found r => if better f (r + 1) found then r + 1 else found) 0)).1 ∨ ((f i).1 = (f ((List.range k).foldl (fun found r => if better f (r + 1) found then r + 1 else found) 0)).1 ∧ (List.range k).foldl (fun found r => if better f (r + 1) found then r + 1 else found) 0 ≤ i))) := by
    intro k
    induction k with
    | zero =>
      refine ⟨Nat.le_refl _, fun i hi => ?_⟩
      have e : i = 0 := by omega
      subst e
      show (f 0).2 < (f 0).2 ∨ _
      exact .inr ⟨rfl, .inr ⟨rfl, Nat.le_refl _⟩⟩
    | succ k ih =>
      rw [List.range_succ, List.foldl_append]
      simp only [List.foldl_cons, List.foldl_nil]
      generalize (List.range k).foldl (fun found r => if better f (r + 1) found then r + 1 else found) 0 = q at *
      obtain ⟨i1, i2⟩ := ih
      have hb := @better_iff f (k + 1) q
      by_cases c : better f (k + 1) q = true
      · rw [if_pos c]
        refine ⟨Nat.le_refl _, fun i hi => ?_⟩
        by_cases e : i = k + 1
        · subst e
          exact .inr ⟨rfl, .inr ⟨rfl, Nat.le_refl _⟩⟩
        · have := i2 i (by omega)
          grind
      · rw [if_neg c]
        refine ⟨by omega, fun i hi => ?_⟩
        by_cases e : i = k + 1
        · subst e
          grind
        · exact i2 i (by omega)
  obtain ⟨k1, k2⟩ := key (n - 1)
  refine ⟨by show firstL n f < n; unfold firstL; omega, fun i hi => k2 i (by omega)⟩
theorem efold_spec : ∀ (ts : List Rat) (x : Rat), (ts.foldl (fun found t => if t < found then t else found) x = x ∨ ts.foldl (fun found t => if t < found then t else found) x ∈ ts) ∧ ts.foldl (fun found t => if t < found then t else found) x ≤ x ∧ ∀ t ∈ ts, ts.foldl (fun found t => if t < found then t else found) x ≤ t
  | [], x => ⟨.inl rfl, Rat.le_refl, fun _ h => nomatch h⟩
  | t :: ts, x => by
    have ih := efold_spec ts (if t < x then t else x)
    rw [List.foldl_cons]
    generalize ts.foldl (fun found t => if t < found then t else found) (if t < x then t else x) = y at *
    obtain ⟨h1, h2, h3⟩ := ih
    refine ⟨?_, ?_, ?_⟩
    · rcases h1 with h1 | h1
      · by_cases c : t < x
        · rw [if_pos c] at h1; rw [h1]; exact .inr List.mem_cons_self
        · rw [if_neg c] at h1; exact .inl h1
      · exact .inr (List.mem_cons_of_mem _ h1)
    · grind
    · intro z hz
      rcases List.mem_cons.mp hz with rfl | hz
      · grind
      · exact h3 z hz
theorem earliest_spec {ts : List Rat} (h : ts ≠ []) : earliest ts ∈ ts ∧ ∀ t ∈ ts, earliest ts ≤ t := by
  cases ts with
  | nil => exact absurd rfl h
  | cons t ts =>
    have e := efold_spec (t :: ts) t
    refine ⟨?_, e.2.2⟩
    rcases e.1 with q | q
    · show (t :: ts).foldl _ t ∈ _
      rw [q]; exact List.mem_cons_self
    · exact q
theorem mem_passed {n : Nat} {f : Nat → Ln} {ld : Nat} {s : Option Rat} {x : Rat} : x ∈ passed n f ld s ↔ ∃ i, i < n ∧ (f ld).2 < (f i).2 ∧ isLater s (meetT (f ld) (f i)) = true ∧ x = meetT (f ld) (f i) := by
  unfold passed
  rw [List.mem_filterMap]
  constructor
  · rintro ⟨i, hi, e⟩
    split at e
    · rename_i c
      exact ⟨i, List.mem_range.mp hi, c.1, c.2, (Option.some.inj e).symm⟩
    · cases e
  · rintro ⟨i, hi, h1, h2, rfl⟩
    exact ⟨i, List.mem_range.mpr hi, by rw [if_pos ⟨h1, h2⟩]⟩
/-- a steeper one passes a leader behind its since -/
theorem leads_steeper {n : Nat} {f : Nat → Ln} {p : Nat × Option Rat} (h : Leads n f p) {i : Nat} (hi : i < n) (hs : (f p.1).2 < (f i).2) : meetT (f p.1) (f i) ∈ passed n f p.1 p.2 := by
  refine mem_passed.mpr ⟨i, hi, hs, ?_, rfl⟩
  obtain ⟨r, s⟩ := p
  cases s with
  | none => rfl
  | some t =>
    have q := h.2 i hi (by intro e; subst e; grind)
    have e := @ahead_flat f r i t hs
    simp only [isLater]
    grind
/-- slopes rise along the row -/
theorem leads_rise {n : Nat} {f : Nat → Ln} {p : Nat × Option Rat} (h : Leads n f p) (hn : passed n f p.1 p.2 ≠ []) : (f p.1).2 < (f (aheadAll n f (earliest (passed n f p.1 p.2)))).2 := by
  obtain ⟨e1, e2⟩ := earliest_spec hn
  have e4 := mem_passed.mp e1
  generalize earliest (passed n f p.1 p.2) = e at *
  obtain ⟨i, hi, hs, hl, rfl⟩ := e4
  obtain ⟨a1, a2⟩ := aheadAll_spec n f (meetT (f p.1) (f i)) (by have := h.1; omega)
  simp only at a1 a2
  generalize aheadAll n f (meetT (f p.1) (f i)) = q at *
  have pm := @place_meet (f p.1) (f i) (by grind)
  -- q's place is not behind the leader's there
  by_cases hqi : i = q
  · rw [← hqi]; exact hs
  have q1 := a2 i hi hqi
  by_cases hqp : q = p.1
  · exfalso
    rw [hqp] at q1
    have := @ahead_flat f p.1 i (meetT (f p.1) (f i)) hs
    grind
  have q2 := a2 p.1 h.1 (fun z => hqp z.symm)
  obtain ⟨r, s⟩ := p
  simp only at *
  cases s with
  | none =>
    have := h.2 q a1
    simp only at this
    rw [ahead_iff] at q1 q2
    unfold place at *
    rcases Classical.em ((f r).2 = (f q).2) with c | c
    · grind
    · grind
  | some t =>
    have lp := h.2 q a1 (fun z => hqp z)
    simp only at lp
    simp only [isLater, decide_eq_true_eq] at hl
    rcases Classical.em ((f r).2 = (f q).2) with c | c
    · have := @ahead_par f r q t (meetT (f r) (f i)) c
      have := @ahead_tot f r q (meetT (f r) (f i)) (fun z => hqp z.symm)
      grind
    · rcases rne c with c | c
      · exact c
      · have s1 := @ahead_steep f r q t c
        have s2 := @ahead_steep f r q (meetT (f r) (f i)) c
        have := @ahead_tot f r q (meetT (f r) (f i)) (fun z => hqp z.symm)
        grind
end LT

-- M5
set_option linter.all false
namespace LT
/-! ### the row's length is bounded by the steeper ones -/
def steeper (n : Nat) (f : Nat → Ln) (r : Nat) : Nat := (List.range n).countP fun i => decide ((f r).2 < (f i).2)
theorem steeper_lt {n : Nat} {f : Nat → Ln} {r q : Nat} (hq : q < n) (h : (f r).2 < (f q).2) : steeper n f q < steeper n f r := by
  unfold steeper
  have key : ∀ l : List Nat, (l.countP fun i => decide ((f q).2 < (f i).2)) + (l.countP fun i => decide (i = q)) ≤ l.countP fun i => decide ((f r).2 < (f i).2) := by
    intro l
    induction l with
    | nil => exact Nat.le_refl _
    | cons a l ih =>
      simp only [List.countP_cons]
      by_cases c : a = q
      · subst c
        have : ¬ (f a).2 < (f a).2 := by grind
        simp only [h, this, decide_true, decide_false, if_true]
        simp
        omega
      · by_cases c2 : (f q).2 < (f a).2
        · have : (f r).2 < (f a).2 := by grind
          simp [c, c2, this]
          omega
        · simp only [c, c2, decide_false]
          simp
          omega
  have h1 := key (List.range n)
  have h2 : 0 < (List.range n).countP fun i => decide (i = q) := by
    rw [List.countP_pos_iff]
    exact ⟨q, List.mem_range.mpr hq, by simp⟩
  omega
theorem steeper_le (n : Nat) (f : Nat → Ln) (r : Nat) : steeper n f r ≤ n := by
  have := @List.countP_le_length _ (fun i => decide ((f r).2 < (f i).2)) (List.range n)
  rw [List.length_range] at this
  exact this
theorem next_leads {n : Nat} {f : Nat → Ln} {p : Nat × Option Rat} (h : Leads n f p) : Leads n f (aheadAll n f (earliest (passed n f p.1 p.2)), some (earliest (passed n f p.1 p.2))) := aheadAll_spec n f _ (by have := h.1; omega)

/-! ### covers -/
def always (f : Nat → Ln) (a x : Nat) : Bool := decide ((f a).2 = (f x).2) && ahead f a x 0
def joint (f : Nat → Ln) (x a b : Nat) : Bool := decide ((f a).2 < (f x).2) && decide ((f x).2 < (f b).2) && !decide (meetT (f a) (f x) < meetT (f b) (f x))
def isCover (f : Nat → Ln) (x a b : Nat) : Bool := !decide (a = x) && !decide (b = x) && (always f a x || always f b x || joint f x a b || joint f x b a)
def cAt (f : Nat → Ln) (x : Nat) : List Nat → Nat
  | [] => 0
  | [_] => 0
  | _ :: b :: r => if (f x).2 < (f b).2 then 0 else cAt f x (b :: r) + 1
def cover (n : Nat) (f : Nat → Ln) (x : Nat) : Option (Nat × Nat) :=
  let row := (leaders n f).map (·.1)
  if x ∈ row then none else some (row.getD (cAt f x row) 0, row.getD (min (cAt f x row + 1) (row.length - 1)) 0)
theorem always_sent (f : Nat → Ln) (m : Ln) (d : Rat) (a x : Nat) : always (fun i => sent m d (f i)) a x = always f a x := by
  unfold always
  simp only [sent_eq]
  by_cases h : (f a).2 = (f x).2
  · have e : ahead (fun i => sent m d (f i)) a x 0 = ahead f a x 0 := by
      have h1 := ahead_sent f m d a x (-d)
      rw [show -d + d = 0 by grind] at h1
      rw [h1]
      exact ahead_par h
    rw [e]
  · simp [h]
theorem joint_sent (f : Nat → Ln) (m : Ln) (d : Rat) (x a b : Nat) : joint (fun i => sent m d (f i)) x a b = joint f x a b := by
  unfold joint
  simp only [sent_lt]
  by_cases h : (f a).2 < (f x).2
  · by_cases h2 : (f x).2 < (f b).2
    · rw [meetT_sent m d _ _ (by grind), meetT_sent m d _ _ (by grind)]
      simp only [add_lt]
    · simp [h2]
  · simp [h]
theorem isCover_sent (f : Nat → Ln) (m : Ln) (d : Rat) (x a b : Nat) : isCover (fun i => sent m d (f i)) x a b = isCover f x a b := by
  unfold isCover
  simp only [always_sent, joint_sent]
theorem cAt_sent (f : Nat → Ln) (m : Ln) (d : Rat) (x : Nat) : ∀ l, cAt (fun i => sent m d (f i)) x l = cAt f x l
  | [] => rfl
  | [_] => rfl
  | a :: b :: r => by
    have ih := cAt_sent f m d x (b :: r)
    unfold cAt
    simp only [sent_lt, ih]
theorem cover_sent (n : Nat) (f : Nat → Ln) (m : Ln) (d : Rat) (x : Nat) : cover n (fun i => sent m d (f i)) x = cover n f x := by
  unfold cover
  rw [leaders_sent, List.map_map]
  have e : ((fun x : Nat × Option Rat => x.1) ∘ later d) = fun x : Nat × Option Rat => x.1 := rfl
  rw [e]
  simp only [cAt_sent]
theorem cAt_lt {f : Nat → Ln} {x : Nat} : ∀ {l : List Nat}, l ≠ [] → cAt f x l < l.length
  | [], h => absurd rfl h
  | [_], _ => Nat.zero_lt_one
  | a :: b :: r, _ => by
    have ih := @cAt_lt f x (b :: r) (by simp)
    unfold cAt
    split
    · simp
    · simp only [List.length_cons] at *; omega
/-- along the row a cover is found -/
theorem cover_row {n : Nat} {f : Nat → Ln} {x : Nat} (hx : x < n) : ∀ (k : Nat) (p : Nat × Option Rat), Leads n f p → steeper n f p.1 ≤ k → (f p.1).2 ≤ (f x).2 → x ∉ (rowFrom n f k p).map (·.1) →
    isCover f x (((rowFrom n f k p).map (·.1)).getD (cAt f x ((rowFrom n f k p).map (·.1))) 0) (((rowFrom n f k p).map (·.1)).getD (min (cAt f x ((rowFrom n f k p).map (·.1)) + 1) (((rowFrom n f k p).map (·.1)).length - 1)) 0) = true := by
  have last : ∀ p : Nat × Option Rat, Leads n f p → (f p.1).2 = (f x).2 → x ≠ p.1 → always f p.1 x = true := by
    intro p h hs hne
    unfold always
    rw [decide_eq_true hs, Bool.true_and]
    obtain ⟨r, s⟩ := p
    cases s with
    | none =>
      have := h.2 x hx
      simp only at this hs hne
      rw [ahead_iff]
      unfold place
      grind
    | some t =>
      have := h.2 x hx hne
      simp only at this hs hne
      rw [← this]
      exact ahead_par hs
  have one : ∀ p : Nat × Option Rat, Leads n f p → steeper n f p.1 = 0 ∨ passed n f p.1 p.2 = [] → (f p.1).2 ≤ (f x).2 → x ≠ p.1 → isCover f x p.1 p.1 = true := by
    intro p h hz hs hne
    have : (f p.1).2 = (f x).2 := by
      rcases Classical.em ((f p.1).2 = (f x).2) with c | c
      · exact c
      · exfalso
        have c' : (f p.1).2 < (f x).2 := by grind
        rcases hz with hz | hz
        · have := @steeper_lt n f p.1 x hx c'
          omega
        · have := leads_steeper h hx c'
          rw [hz] at this
          cases this
    have a := last p h this hne
    unfold isCover
    rw [a]
    have n1 : decide (p.1 = x) = false := decide_eq_false fun z => hne z.symm
    rw [n1]; rfl
  intro k
  induction k with
  | zero =>
    intro p h hk hs hm
    have hne : x ≠ p.1 := fun e => hm (by show x ∈ [p.1]; rw [e]; simp)
    exact one p h (.inl (by omega)) hs hne
  | succ k ih =>
    intro p h hk hs hm
    by_cases c : passed n f p.1 p.2 = []
    · have e : rowFrom n f (k + 1) p = [p] := by
        unfold rowFrom; rw [if_pos c]
      rw [e] at hm ⊢
      have hne : x ≠ p.1 := fun e => hm (by show x ∈ [p.1]; rw [e]; simp)
      exact one p h (.inr c) hs hne
    · have e : rowFrom n f (k + 1) p = p :: rowFrom n f k (aheadAll n f (earliest (passed n f p.1 p.2)), some (earliest (passed n f p.1 p.2))) := by
        conv => lhs; unfold rowFrom
        rw [if_neg c]
      have hq := next_leads h
      have rise := leads_rise h c
      obtain ⟨e1, e2⟩ := earliest_spec c
      rw [e] at hm ⊢
      generalize hqd : (aheadAll n f (earliest (passed n f p.1 p.2)), some (earliest (passed n f p.1 p.2))) = q at *
      have hq1 : q.1 = aheadAll n f (earliest (passed n f p.1 p.2)) := by rw [← hqd]
      have hq2 : q.2 = some (earliest (passed n f p.1 p.2)) := by rw [← hqd]
      rw [← hq1] at rise
      have hk' : steeper n f q.1 ≤ k := by
        have := steeper_lt hq.1 rise
        omega
      have hm' : x ∉ (rowFrom n f k q).map (·.1) := fun z => hm (by rw [List.map_cons]; exact List.mem_cons_of_mem _ z)
      have hne : x ≠ p.1 := fun e => hm (by rw [List.map_cons, e]; exact List.mem_cons_self)
      have ihq := fun hs' => ih q hq hk' hs' hm'
      have shp : ∃ r, (rowFrom n f k q).map (·.1) = q.1 :: r := by
        cases k with
        | zero => exact ⟨[], rfl⟩
        | succ k =>
          unfold rowFrom
          split
          · exact ⟨[], rfl⟩
          · exact ⟨_, rfl⟩
      rw [List.map_cons]
      obtain ⟨r, hr⟩ := shp
      rw [hr] at ihq hm' ⊢
      have hnq : x ≠ q.1 := fun e => hm' (by rw [e]; exact List.mem_cons_self)
      by_cases c2 : (f x).2 < (f q.1).2
      · have e3 : cAt f x (p.1 :: q.1 :: r) = 0 := by unfold cAt; rw [if_pos c2]
        rw [e3]
        have e4 : min (0 + 1) ((p.1 :: q.1 :: r).length - 1) = 1 := by simp
        rw [e4]
        show isCover f x p.1 q.1 = true
        unfold isCover
        have n1 : decide (p.1 = x) = false := decide_eq_false fun z => hne z.symm
        have n2 : decide (q.1 = x) = false := decide_eq_false fun z => hnq z.symm
        rw [n1, n2]
        rcases Classical.em ((f p.1).2 = (f x).2) with c3 | c3
        · rw [last p h c3 hne]; rfl
        · have c4 : (f p.1).2 < (f x).2 := by grind
          have j : joint f x p.1 q.1 = true := by
            unfold joint
            rw [decide_eq_true c4, decide_eq_true c2]
            have m1 := e2 _ (leads_steeper h hx c4)
            have l2 := hq.2
            rw [hq2] at l2
            have l3 := l2 x hx hnq
            have s1 := @ahead_steep f q.1 x (earliest (passed n f p.1 p.2)) c2
            have : ¬ meetT (f p.1) (f x) < meetT (f q.1) (f x) := by grind
            rw [decide_eq_false this]
            rfl
          rw [j]
          simp
      · have e3 : cAt f x (p.1 :: q.1 :: r) = cAt f x (q.1 :: r) + 1 := by
          conv => lhs; unfold cAt
          rw [if_neg c2]
        have i := ihq (by grind)
        have hlt := @cAt_lt f x (q.1 :: r) (by simp)
        rw [e3]
        have g1 : (p.1 :: q.1 :: r).getD (cAt f x (q.1 :: r) + 1) 0 = (q.1 :: r).getD (cAt f x (q.1 :: r)) 0 := by simp [List.getD]
        have g2 : (p.1 :: q.1 :: r).getD (min (cAt f x (q.1 :: r) + 1 + 1) ((p.1 :: q.1 :: r).length - 1)) 0 = (q.1 :: r).getD (min (cAt f x (q.1 :: r) + 1) ((q.1 :: r).length - 1)) 0 := by
          have : min (cAt f x (q.1 :: r) + 1 + 1) ((p.1 :: q.1 :: r).length - 1) = min (cAt f x (q.1 :: r) + 1) ((q.1 :: r).length - 1) + 1 := by
            simp only [List.length_cons] at *
            omega
          rw [this]
          simp [List.getD]
        rw [g1, g2]
        exact i
theorem firstL_least {n : Nat} {f : Nat → Ln} {x : Nat} (hx : x < n) : (f (firstL n f)).2 ≤ (f x).2 := by
  have := (firstL_spec n f (by omega)).2 x hx
  grind
theorem cover_ok {n : Nat} {f : Nat → Ln} {x a b : Nat} (hx : x < n) (h : cover n f x = some (a, b)) : isCover f x a b = true := by
  unfold cover leaders at h
  have hn : ¬ n = 0 := by omega
  simp only [if_neg hn] at h
  split at h
  · cases h
  · rename_i hm
    have e := Option.some.inj h
    have e1 := congrArg Prod.fst e
    have e2 := congrArg Prod.snd e
    simp only at e1 e2
    rw [← e1, ← e2]
    exact cover_row hx n (firstL n f, none) (firstL_spec n f (by omega)) (steeper_le n f _) (firstL_least hx) hm
end LT

-- M6
set_option linter.all false
namespace LT
/-! ### front, nearest, papers -/
def front (n : Nat) (f : Nat → Ln) (t : Rat) : List Nat := (List.range n).filter fun r => !(List.range n).any fun i => decide (place (f r) t < place (f i) t)
def nearStep (f : Nat → Ln) (t : Rat) (best : Option (Nat × Nat × Rat)) (p : Nat × Nat) : Option (Nat × Nat × Rat) :=
  match best with
  | none => some (p.1, p.2, place (f p.1) t - place (f p.2) t)
  | some b => if place (f p.1) t - place (f p.2) t < b.2.2 then some (p.1, p.2, place (f p.1) t - place (f p.2) t) else some b
def pairsOf (l : List Nat) : List (Nat × Nat) := l.zip (l.drop 1)
def nearest (n : Nat) (f : Nat → Ln) (t : Rat) : Option (Nat × Nat × Rat) := (pairsOf (order n f t)).foldl (nearStep f t) none
def papersAt (n : Nat) (f : Nat → Ln) (t : Rat) : List (Nat × Nat × Option Rat) := (pairsOf (order n f t)).map fun p => (p.1, p.2, nextC f p.1 p.2 t)
def latP (d : Rat) (p : Nat × Nat × Option Rat) : Nat × Nat × Option Rat := (p.1, p.2.1, p.2.2.map (· + d))
section
variable (n : Nat) (f : Nat → Ln) (m : Ln) (d t : Rat)
theorem place_sent_lt (i j : Nat) : (place (sent m d (f i)) (t + d) < place (sent m d (f j)) (t + d)) = (place (f i) t < place (f j) t) := by
  simp only [place_sent, add_lt]
theorem front_sent : front n (fun i => sent m d (f i)) (t + d) = front n f t := by
  unfold front
  simp only [place_sent_lt]
theorem nearStep_sent : nearStep (fun i => sent m d (f i)) (t + d) = nearStep f t := by
  funext b p
  unfold nearStep
  have e : ∀ i j, place (sent m d (f i)) (t + d) - place (sent m d (f j)) (t + d) = place (f i) t - place (f j) t := by
    intro i j
    simp only [place_sent]
    grind
  simp only [e]
theorem nearest_sent : nearest n (fun i => sent m d (f i)) (t + d) = nearest n f t := by
  unfold nearest
  rw [order_sent, nearStep_sent]
theorem papersAt_sent : papersAt n (fun i => sent m d (f i)) (t + d) = (papersAt n f t).map (latP d) := by
  unfold papersAt
  rw [order_sent, List.map_map]
  congr 1
  funext p
  simp only [nextC_sent, Function.comp, latP]
end
/-! ### changes, ranks -/
abbrev Ch := Rat × List (Nat × Nat)
def passing (f : Nat → Ln) (i j : Nat) : Option Rat := if (f i).2 < (f j).2 then some (meetT (f i) (f j)) else none
def putIn (t : Rat) (p : Nat × Nat) : List Ch → List Ch
  | [] => [(t, [p])]
  | (s, ps) :: r => if s < t then (s, ps) :: putIn t p r else if s = t then (s, ps ++ [p]) :: r else (t, [p]) :: (s, ps) :: r
def latC (d : Rat) (c : Ch) : Ch := (c.1 + d, c.2)
theorem putIn_sent (d t : Rat) (p : Nat × Nat) : ∀ l, putIn (t + d) p (l.map (latC d)) = (putIn t p l).map (latC d)
  | [] => rfl
  | (s, ps) :: r => by
    have ih := putIn_sent d t p r
    show putIn (t + d) p ((s + d, ps) :: r.map (latC d)) = _
    unfold putIn
    simp only [add_lt, add_eq, ih]
    split
    · rfl
    · split <;> rfl
/-- one step of the double loop -/
def chStep (f : Nat → Ln) (low high : Option Rat) (i : Nat) (found : List Ch) (j : Nat) : List Ch :=
  match passing f i j with
  | none => found
  | some t => if (match low with | none => true | some l => decide (l < t)) && (match high with | none => true | some h => !decide (h < t)) then putIn t (i, j) found else found
def chRow (n : Nat) (f : Nat → Ln) (low high : Option Rat) (found : List Ch) (i : Nat) : List Ch := (List.range n).foldl (chStep f low high i) found
def chAll (n : Nat) (f : Nat → Ln) (low high : Option Rat) : List Ch := (List.range n).foldl (chRow n f low high) []
theorem passing_sent (f : Nat → Ln) (m : Ln) (d : Rat) (i j : Nat) : passing (fun i => sent m d (f i)) i j = (passing f i j).map (· + d) := by
  unfold passing
  simp only [sent_lt]
  by_cases h : (f i).2 < (f j).2
  · rw [if_pos h, if_pos h, meetT_sent m d _ _ (by grind)]; rfl
  · rw [if_neg h, if_neg h]; rfl
theorem chStep_sent (f : Nat → Ln) (m : Ln) (d : Rat) (low high : Option Rat) (i : Nat) (found : List Ch) (j : Nat) :
    chStep (fun i => sent m d (f i)) (low.map (· + d)) (high.map (· + d)) i (found.map (latC d)) j = (chStep f low high i found j).map (latC d) := by
  unfold chStep
  rw [passing_sent]
  cases passing f i j with
  | none => rfl
  | some t =>
    simp only [Option.map_some]
    cases low <;> cases high <;> simp only [Option.map_some, Option.map_none, add_lt] <;> (split <;> first | rfl | exact putIn_sent d t (i, j) found)
theorem fold_sent {α β : Type} (g h : α → β → α) (s : α → α) (e : ∀ a b, h (s a) b = s (g a b)) : ∀ (l : List β) (a : α), l.foldl h (s a) = s (l.foldl g a)
  | [], _ => rfl
  | b :: l, a => by
    rw [List.foldl_cons, List.foldl_cons, e]
    exact fold_sent g h s e l _
theorem chAll_sent (n : Nat) (f : Nat → Ln) (m : Ln) (d : Rat) (low high : Option Rat) : chAll n (fun i => sent m d (f i)) (low.map (· + d)) (high.map (· + d)) = (chAll n f low high).map (latC d) := by
  unfold chAll
  exact fold_sent _ _ (List.map (latC d)) (fun a i => by
    unfold chRow
    exact fold_sent _ _ (List.map (latC d)) (fun a j => chStep_sent f m d low high i a j) _ a) _ []
def changes (n : Nat) (f : Nat → Ln) (low high : Rat) : List Ch := chAll n f (some low) (some high)
theorem changes_sent (n : Nat) (f : Nat → Ln) (m : Ln) (d low high : Rat) : changes n (fun i => sent m d (f i)) (low + d) (high + d) = (changes n f low high).map (latC d) := chAll_sent n f m d (some low) (some high)
def changeTimes (n : Nat) (f : Nat → Ln) : List Rat := (chAll n f none none).map (·.1)
theorem changeTimes_sent (n : Nat) (f : Nat → Ln) (m : Ln) (d : Rat) : changeTimes n (fun i => sent m d (f i)) = (changeTimes n f).map (· + d) := by
  unfold changeTimes
  rw [show (none : Option Rat) = Option.map (· + d) none from rfl, chAll_sent, List.map_map, List.map_map]
  rfl
def before (ts : List Rat) : Rat := match ts with
  | [] => 0
  | t :: _ => t - 1
def rankStep (n : Nat) (f : Nat → Ln) (k : Nat) (row : List (Nat × Option Rat)) (t : Rat) : List (Nat × Option Rat) :=
  if (order n f t).getD k 0 = (row.getLastD (0, none)).1 then row else row ++ [((order n f t).getD k 0, some t)]
def rankRow (n : Nat) (f : Nat → Ln) (k : Nat) : List (Nat × Option Rat) :=
  if n ≤ k then [] else (changeTimes n f).foldl (rankStep n f k) [((order n f (before (changeTimes n f))).getD k 0, none)]
theorem putIn_ne (t : Rat) (p : Nat × Nat) : ∀ l, putIn t p l ≠ []
  | [] => by simp [putIn]
  | (s, ps) :: r => by
    unfold putIn
    split
    · simp
    · split <;> simp
theorem fold_ne {β : Type} (g : List Ch → β → List Ch) (h : ∀ a b, a ≠ [] → g a b ≠ []) : ∀ (l : List β) (a : List Ch), a ≠ [] → l.foldl g a ≠ []
  | [], _, ha => ha
  | b :: l, a, ha => fold_ne g h l _ (h a b ha)
theorem fold_hit {β : Type} (g : List Ch → β → List Ch) (h : ∀ a b, a ≠ [] → g a b ≠ []) {l : List β} {b : β} (hb : b ∈ l) (hg : ∀ a, g a b ≠ []) (a : List Ch) : l.foldl g a ≠ [] := by
  induction l generalizing a with
  | nil => cases hb
  | cons c l ih =>
    rw [List.foldl_cons]
    rcases List.mem_cons.mp hb with rfl | q
    · exact fold_ne g h l _ (hg a)
    · exact ih q _
theorem ite_ne {c : Prop} [Decidable c] {a b : List Ch} (ha : a ≠ []) (hb : b ≠ []) : (if c then a else b) ≠ [] := by
  by_cases h : c
  · rw [if_pos h]; exact ha
  · rw [if_neg h]; exact hb
theorem chStep_ne {f : Nat → Ln} {low high : Option Rat} {i j : Nat} {found : List Ch} (h : found ≠ []) : chStep f low high i found j ≠ [] := by
  unfold chStep
  split
  · exact h
  · exact ite_ne (putIn_ne _ _ _) h
theorem no_changes {n : Nat} {f : Nat → Ln} (h : changeTimes n f = []) {i j : Nat} (hi : i < n) (hj : j < n) : ¬ (f i).2 < (f j).2 := by
  intro c
  have e : chAll n f none none = [] := List.map_eq_nil_iff.mp h
  revert e
  unfold chAll
  refine fold_hit _ (fun a i ha => fold_ne _ (fun a j ha => chStep_ne ha) _ a ha) (List.mem_range.mpr hi) (fun a => ?_) []
  refine fold_hit _ (fun a j ha => chStep_ne ha) (List.mem_range.mpr hj) (fun a => ?_) a
  unfold chStep passing
  rw [if_pos c]
  exact putIn_ne _ _ _
theorem order_before (n : Nat) (f : Nat → Ln) (m : Ln) (d : Rat) : order n (fun i => sent m d (f i)) (before ((changeTimes n f).map (· + d))) = order n f (before (changeTimes n f)) := by
  cases h : changeTimes n f with
  | nil =>
    show order n (fun i => sent m d (f i)) 0 = order n f 0
    have e := order_sent n f m d (-d)
    rw [show -d + d = 0 by grind] at e
    rw [e]
    refine order_par fun i j hi hj => ?_
    have h1 := no_changes h hi hj
    have h2 := no_changes h hj hi
    exact ahead_par (by grind)
  | cons t ts =>
    show order n (fun i => sent m d (f i)) (t + d - 1) = order n f (t - 1)
    have e := order_sent n f m d (t - 1)
    rw [show t - 1 + d = t + d - 1 by grind] at e
    exact e
theorem later_last (d : Rat) (row : List (Nat × Option Rat)) : ((row.map (later d)).getLastD (0, none)).1 = (row.getLastD (0, none)).1 := by
  cases row with
  | nil => rfl
  | cons a r =>
    rw [List.map_cons]
    induction r generalizing a with
    | nil => rfl
    | cons b r ih => exact ih b
theorem rankStep_sent (n : Nat) (f : Nat → Ln) (m : Ln) (d : Rat) (k : Nat) (row : List (Nat × Option Rat)) (t : Rat) :
    rankStep n (fun i => sent m d (f i)) k (row.map (later d)) (t + d) = (rankStep n f k row t).map (later d) := by
  unfold rankStep
  rw [order_sent, later_last]
  split
  · rfl
  · rw [List.map_append]; rfl
theorem rankRow_sent (n : Nat) (f : Nat → Ln) (m : Ln) (d : Rat) (k : Nat) : rankRow n (fun i => sent m d (f i)) k = (rankRow n f k).map (later d) := by
  unfold rankRow
  split
  · rfl
  · rw [changeTimes_sent, order_before]
    have key : ∀ (ts : List Rat) (row : List (Nat × Option Rat)), (ts.map (· + d)).foldl (rankStep n (fun i => sent m d (f i)) k) (row.map (later d)) = (ts.foldl (rankStep n f k) row).map (later d) := by
      intro ts
      induction ts with
      | nil => intro row; rfl
      | cons t ts ih =>
        intro row
        rw [List.map_cons, List.foldl_cons, List.foldl_cons, rankStep_sent]
        exact ih _
    exact key _ [((order n f (before (changeTimes n f))).getD k 0, none)]
end LT

-- M7
set_option linter.all false
namespace LT
/-! ### waiting lists: heaps of pairs -/
abbrev Pr := Rat × Nat × Nat
def ca (a b : Pr) : Bool := if a.1 = b.1 then decide (a.2.1 < b.2.1) || (decide (a.2.1 = b.2.1) && decide (a.2.2 < b.2.2)) else decide (a.1 < b.1)
theorem ca_iff {a b : Pr} : ca a b = true ↔ a.1 < b.1 ∨ (a.1 = b.1 ∧ (a.2.1 < b.2.1 ∨ (a.2.1 = b.2.1 ∧ a.2.2 < b.2.2))) := by
  unfold ca
  split
  · simp; grind
  · simp; grind
theorem ca_irr (a : Pr) : ca a a = false := by
  have := @ca_iff a a
  grind
theorem ca_le_trans {a b c : Pr} (h1 : ca b a = false) (h2 : ca c b = false) : ca c a = false := by
  have e1 := @ca_iff b a
  have e2 := @ca_iff c b
  have e3 := @ca_iff c a
  grind
theorem ca_asymm {a b : Pr} (h : ca a b = true) : ca b a = false := by
  have e1 := @ca_iff b a
  have e2 := @ca_iff a b
  grind
theorem ca_time {a b : Pr} (h : ca b a = false) : a.1 ≤ b.1 := by
  have e1 := @ca_iff b a
  grind
inductive Sh where
  | nil
  | node (p : Pr) (l r : Sh)
def Sh.size : Sh → Nat
  | nil => 0
  | node _ l r => l.size + r.size + 1
def Sh.els : Sh → List Pr
  | nil => []
  | node p l r => p :: (l.els ++ r.els)
theorem Sh.els_len : ∀ t : Sh, t.els.length = t.size
  | nil => rfl
  | node p l r => by
    have h1 := els_len l
    have h2 := els_len r
    simp only [els, size, List.length_cons, List.length_append]
    omega
def Sh.HO : Sh → Prop
  | nil => True
  | node p l r => (∀ e ∈ l.els ++ r.els, ca e p = false) ∧ l.HO ∧ r.HO
def rw' : Sh → Nat
  | .nil => 0
  | .node _ _ r => 1 + rw' r
def laidS (p : Pr) (a b : Sh) : Sh := if rw' a < rw' b then .node p b a else .node p a b
def mg : Sh → Sh → Sh
  | .nil, b => b
  | .node p l r, .nil => .node p l r
  | .node p l r, .node q l' r' => if ca q p = true then laidS q l' (mg r' (.node p l r)) else laidS p l (mg r (.node q l' r'))
termination_by a b => a.size + b.size
decreasing_by all_goals (simp only [Sh.size]; omega)
def wo : Sh → Pr → Sh
  | .nil, _ => .nil
  | .node q l r, p => if ca p q = true then .node q l r else if q = p then mg l r else laidS q (wo l p) (wo r p)
theorem laidS_els (p : Pr) (a b : Sh) : (laidS p a b).els.Perm (p :: (a.els ++ b.els)) := by
  unfold laidS
  split
  · exact List.Perm.cons _ List.perm_append_comm
  · exact List.Perm.refl _
theorem laidS_HO {p : Pr} {a b : Sh} (h : ∀ e ∈ a.els ++ b.els, ca e p = false) (ha : a.HO) (hb : b.HO) : (laidS p a b).HO := by
  unfold laidS
  split
  · exact ⟨fun e he => h e (by rw [List.mem_append] at *; exact he.symm), hb, ha⟩
  · exact ⟨h, ha, hb⟩
theorem mg_els : ∀ (a b : Sh), (mg a b).els.Perm (a.els ++ b.els)
  | .nil, b => by unfold mg; exact List.Perm.refl _
  | .node p l r, .nil => by unfold mg; simp [Sh.els]
  | .node p l r, .node q l' r' => by
    have i1 := mg_els r' (.node p l r)
    have i2 := mg_els r (.node q l' r')
    unfold mg
    split
    · refine (laidS_els _ _ _).trans ?_
      have h1 : (q :: (l'.els ++ (mg r' (.node p l r)).els)).Perm (q :: (l'.els ++ (r'.els ++ (Sh.node p l r).els))) := List.Perm.cons _ (List.Perm.append_left _ i1)
      refine h1.trans ?_
      have h2 : q :: (l'.els ++ (r'.els ++ (Sh.node p l r).els)) = (Sh.node q l' r').els ++ (Sh.node p l r).els := by simp [Sh.els]
      rw [h2]
      exact List.perm_append_comm
    · refine (laidS_els _ _ _).trans ?_
      have h1 : (p :: (l.els ++ (mg r (.node q l' r')).els)).Perm (p :: (l.els ++ (r.els ++ (Sh.node q l' r').els))) := List.Perm.cons _ (List.Perm.append_left _ i2)
      refine h1.trans ?_
      have h2 : p :: (l.els ++ (r.els ++ (Sh.node q l' r').els)) = (Sh.node p l r).els ++ (Sh.node q l' r').els := by simp [Sh.els]
      rw [h2]
termination_by a b => a.size + b.size
decreasing_by all_goals (simp only [Sh.size]; omega)
theorem root_le {p : Pr} {l r : Sh} (h : (Sh.node p l r).HO) : ∀ e ∈ (Sh.node p l r).els, ca e p = false := fun e he => by
  rcases List.mem_cons.mp he with rfl | he
  · exact ca_irr _
  · exact h.1 e he
theorem mg_HO : ∀ (a b : Sh), a.HO → b.HO → (mg a b).HO
  | .nil, b, _, hb => by unfold mg; exact hb
  | .node p l r, .nil, ha, _ => by unfold mg; exact ha
  | .node p l r, .node q l' r', ha, hb => by
    have i1 := mg_HO r' (.node p l r) hb.2.2 ha
    have i2 := mg_HO r (.node q l' r') ha.2.2 hb
    unfold mg
    split
    · rename_i c
      refine laidS_HO (fun e he => ?_) hb.2.1 i1
      rcases List.mem_append.mp he with he | he
      · exact hb.1 e (List.mem_append_left _ he)
      · rcases List.mem_append.mp ((mg_els _ _).mem_iff.mp he) with he | he
        · exact hb.1 e (List.mem_append_right _ he)
        · exact ca_le_trans (ca_asymm c) (root_le ha e he)
    · rename_i c
      refine laidS_HO (fun e he => ?_) ha.2.1 i2
      rcases List.mem_append.mp he with he | he
      · exact ha.1 e (List.mem_append_left _ he)
      · rcases List.mem_append.mp ((mg_els _ _).mem_iff.mp he) with he | he
        · exact ha.1 e (List.mem_append_right _ he)
        · exact ca_le_trans (by simpa using c) (root_le hb e he)
termination_by a b => a.size + b.size
decreasing_by all_goals (simp only [Sh.size]; omega)
theorem filter_id {l : List Pr} {p : Pr} (h : p ∉ l) : l.filter (fun e => decide (e ≠ p)) = l := by
  rw [List.filter_eq_self]
  intro e he
  exact decide_eq_true fun z => h (z ▸ he)
theorem wo_ok : ∀ (t : Sh) (p : Pr), t.HO → t.els.Nodup → (wo t p).els.Perm (t.els.filter fun e => decide (e ≠ p)) ∧ (wo t p).HO
  | .nil, p, _, _ => ⟨by simp [wo, Sh.els], trivial⟩
  | .node q l r, p, h, hn => by
    have hn' := List.nodup_cons.mp (show (q :: (l.els ++ r.els)).Nodup from hn)
    have hlr := List.nodup_append.mp hn'.2
    obtain ⟨a1, a2⟩ := wo_ok l p h.2.1 hlr.1
    obtain ⟨b1, b2⟩ := wo_ok r p h.2.2 hlr.2.1
    unfold wo
    by_cases c : ca p q = true
    · rw [if_pos c]
      refine ⟨?_, h⟩
      rw [filter_id]
      intro hm
      have := root_le h p hm
      rw [this] at c
      cases c
    · rw [if_neg c]
      by_cases e : q = p
      · rw [if_pos e]
        refine ⟨(mg_els l r).trans ?_, mg_HO l r h.2.1 h.2.2⟩
        subst e
        show (l.els ++ r.els).Perm ((q :: (l.els ++ r.els)).filter fun e => decide (e ≠ q))
        rw [List.filter_cons, if_neg (by simp), filter_id hn'.1]
      · rw [if_neg e]
        have els_eq : ((Sh.node q l r).els.filter fun e => decide (e ≠ p)) = q :: ((l.els.filter fun e => decide (e ≠ p)) ++ (r.els.filter fun e => decide (e ≠ p))) := by
          show ((q :: (l.els ++ r.els)).filter fun e => decide (e ≠ p)) = _
          rw [List.filter_cons, if_pos (by simpa using e), List.filter_append]
        refine ⟨?_, laidS_HO (fun x hx => ?_) a2 b2⟩
        · rw [els_eq]
          exact (laidS_els _ _ _).trans (List.Perm.cons _ (List.Perm.append a1 b1))
        · rcases List.mem_append.mp hx with hx | hx
          · exact h.1 x (List.mem_append_left _ (List.mem_filter.mp (a1.mem_iff.mp hx)).1)
          · exact h.1 x (List.mem_append_right _ (List.mem_filter.mp (b1.mem_iff.mp hx)).1)
theorem mg_size (a b : Sh) : (mg a b).size = a.size + b.size := by
  rw [← Sh.els_len, (mg_els a b).length_eq, List.length_append, Sh.els_len, Sh.els_len]

/-! ### walks -/
def tills (f : Nat → Ln) (row : List Nat) (now : Rat) : List (Option Rat) := (pairsOf row).map fun p => till f p.1 p.2 now
def leastO : List (Option Rat) → Option Rat
  | [] => none
  | none :: r => leastO r
  | some t :: r => match leastO r with
    | none => some t
    | some u => if u < t then some u else some t
def atOf (ts : List (Option Rat)) (T : Rat) : Nat := ts.findIdx fun x => decide (x = some T)
def swapAt (row : List Nat) (k : Nat) : List Nat := row.take k ++ [row.getD (k + 1) 0, row.getD k 0] ++ row.drop (k + 2)
def goF (f : Nat → Ln) (high : Rat) : Nat → List Nat → Rat → List (Rat × Nat × Nat)
  | 0, _, _ => []
  | k + 1, row, now => match leastO (tills f row now) with
    | none => []
    | some T => if high < T then [] else (T, row.getD (atOf (tills f row now) T) 0, row.getD (atOf (tills f row now) T + 1) 0) :: goF f high k (swapAt row (atOf (tills f row now) T)) T
def latS (d : Rat) (s : Rat × Nat × Nat) : Rat × Nat × Nat := (s.1 + d, s.2)
theorem tills_sent (f : Nat → Ln) (m : Ln) (d : Rat) (row : List Nat) (now : Rat) : tills (fun i => sent m d (f i)) row (now + d) = (tills f row now).map (Option.map (· + d)) := by
  unfold tills
  rw [List.map_map]
  congr 1
  funext p
  exact till_sent f m d _ _ _
theorem leastO_sent (d : Rat) : ∀ ts : List (Option Rat), leastO (ts.map (Option.map (· + d))) = (leastO ts).map (· + d)
  | [] => rfl
  | none :: r => leastO_sent d r
  | some t :: r => by
    have ih := leastO_sent d r
    show (match leastO (r.map (Option.map (· + d))) with | none => some (t + d) | some u => if u < t + d then some u else some (t + d)) = _
    rw [ih]
    show _ = Option.map (· + d) (match leastO r with | none => some t | some u => if u < t then some u else some t)
    cases leastO r with
    | none => rfl
    | some u =>
      simp only [Option.map_some, add_lt]
      split <;> rfl
theorem atOf_sent (d : Rat) (ts : List (Option Rat)) (T : Rat) : atOf (ts.map (Option.map (· + d))) (T + d) = atOf ts T := by
  unfold atOf
  rw [List.findIdx_map]
  congr 1
  funext x
  cases x with
  | none => simp
  | some t => simp [add_eq]
theorem goF_sent (f : Nat → Ln) (m : Ln) (d high : Rat) : ∀ (k : Nat) (row : List Nat) (now : Rat), goF (fun i => sent m d (f i)) (high + d) k row (now + d) = (goF f high k row now).map (latS d)
  | 0, _, _ => rfl
  | k + 1, row, now => by
    show (match leastO (tills (fun i => sent m d (f i)) row (now + d)) with | none => [] | some T => if high + d < T then [] else (T, row.getD (atOf (tills (fun i => sent m d (f i)) row (now + d)) T) 0, row.getD (atOf (tills (fun i => sent m d (f i)) row (now + d)) T + 1) 0) :: goF (fun i => sent m d (f i)) (high + d) k (swapAt row (atOf (tills (fun i => sent m d (f i)) row (now + d)) T)) T) = List.map (latS d) (match leastO (tills f row now) with | none => [] | some T => if high < T then [] else (T, row.getD (atOf (tills f row now) T) 0, row.getD (atOf (tills f row now) T + 1) 0) :: goF f high k (swapAt row (atOf (tills f row now) T)) T)
    rw [tills_sent, leastO_sent]
    cases leastO (tills f row now) with
    | none => rfl
    | some T =>
      have ih := goF_sent f m d high k (swapAt row (atOf (tills f row now) T)) T
      simp only [Option.map_some, add_lt, atOf_sent, ih]
      split
      · rfl
      · rfl
theorem leastO_spec : ∀ ts : List (Option Rat), (∀ T, leastO ts = some T → some T ∈ ts ∧ ∀ t, some t ∈ ts → T ≤ t) ∧ (leastO ts = none → ∀ t, some t ∉ ts)
  | [] => ⟨fun T h => (nomatch h), fun _ t h => (nomatch h)⟩
  | none :: r => by
    obtain ⟨i1, i2⟩ := leastO_spec r
    refine ⟨fun T h => ?_, fun h t ht => ?_⟩
    · obtain ⟨a, b⟩ := i1 T (show leastO r = some T from h)
      refine ⟨List.mem_cons_of_mem _ a, fun t ht => b t ?_⟩
      rcases List.mem_cons.mp ht with e | q
      · cases e
      · exact q
    · rcases List.mem_cons.mp ht with e | q
      · cases e
      · exact i2 h t q
  | some t :: r => by
    obtain ⟨i1, i2⟩ := leastO_spec r
    refine ⟨fun T h => ?_, fun h t' ht => ?_⟩
    · unfold leastO at h
      cases e : leastO r with
      | none =>
        rw [e] at h
        cases h
        refine ⟨List.mem_cons_self, fun u hu => ?_⟩
        rcases List.mem_cons.mp hu with q | q
        · cases q; exact Rat.le_refl
        · exact absurd q (i2 e u)
      | some u =>
        rw [e] at h
        simp only at h
        obtain ⟨a, b⟩ := i1 u e
        by_cases c : u < t
        · rw [if_pos c] at h
          cases h
          refine ⟨List.mem_cons_of_mem _ a, fun v hv => ?_⟩
          rcases List.mem_cons.mp hv with q | q
          · cases q; grind
          · exact b v q
        · rw [if_neg c] at h
          cases h
          refine ⟨List.mem_cons_self, fun v hv => ?_⟩
          rcases List.mem_cons.mp hv with q | q
          · cases q; exact Rat.le_refl
          · have := b v q; grind
    · unfold leastO at h
      cases e : leastO r with
      | none => rw [e] at h; cases h
      | some u =>
        rw [e] at h
        simp only at h
        split at h <;> cases h
theorem pairsOf_len (row : List Nat) : (pairsOf row).length = row.length - 1 := by
  unfold pairsOf
  rw [List.length_zip, List.length_drop]
  omega
theorem pairsOf_get {row : List Nat} {k : Nat} (h : k + 1 < row.length) : (pairsOf row)[k]? = some (row.getD k 0, row.getD (k + 1) 0) := by
  unfold pairsOf
  rw [List.getElem?_zip_eq_some.mpr ⟨?_, ?_⟩]
  · rw [getD_eq (by omega)]; exact List.getElem?_eq_getElem _
  · rw [List.getElem?_drop, Nat.add_comm]
    show row[k + 1]? = some (row.getD (k + 1) 0)
    rw [getD_eq h]; exact List.getElem?_eq_getElem _
theorem tills_len (f : Nat → Ln) (row : List Nat) (now : Rat) : (tills f row now).length = row.length - 1 := by
  unfold tills
  rw [List.length_map, pairsOf_len]
theorem tills_get {f : Nat → Ln} {row : List Nat} {now : Rat} {k : Nat} (h : k + 1 < row.length) : (tills f row now)[k]? = some (till f (row.getD k 0) (row.getD (k + 1) 0) now) := by
  unfold tills
  rw [List.getElem?_map, pairsOf_get h]
  rfl
theorem mem_tills {f : Nat → Ln} {row : List Nat} {now : Rat} {x : Option Rat} : x ∈ tills f row now ↔ ∃ k, k + 1 < row.length ∧ till f (row.getD k 0) (row.getD (k + 1) 0) now = x := by
  constructor
  · intro h
    obtain ⟨k, hk, e⟩ := List.getElem_of_mem h
    rw [tills_len] at hk
    refine ⟨k, by omega, ?_⟩
    have := @tills_get f row now k (by omega)
    rw [List.getElem?_eq_getElem (by rw [tills_len]; omega), e] at this
    exact (Option.some.inj this).symm
  · rintro ⟨k, hk, e⟩
    have := @tills_get f row now k hk
    rw [e] at this
    exact List.mem_of_getElem? this
theorem atOf_spec {ts : List (Option Rat)} {T : Rat} (h : some T ∈ ts) : atOf ts T < ts.length ∧ ts[atOf ts T]? = some (some T) ∧ ∀ m, m < atOf ts T → ts[m]? ≠ some (some T) := by
  unfold atOf
  have h1 : ts.findIdx (fun x => decide (x = some T)) < ts.length := List.findIdx_lt_length_of_exists ⟨some T, h, by simp⟩
  refine ⟨h1, ?_, fun m hm e => ?_⟩
  · rw [List.getElem?_eq_getElem h1]
    have := List.findIdx_getElem (xs := ts) (p := fun x => decide (x = some T)) (w := h1)
    exact congrArg some (of_decide_eq_true this)
  · have := List.not_of_lt_findIdx hm
    obtain ⟨hlt, e2⟩ := List.getElem?_eq_some_iff.mp e
    simp [e2] at this
end LT

-- M8
set_option linter.all false
namespace LT
def WI (n : Nat) (f : Nat → Ln) (row : List Nat) (now : Rat) : Prop :=
  row.Nodup ∧ (∀ x ∈ row, x < n) ∧ ∀ i j, i < j → j < row.length → ahead f (row.getD j 0) (row.getD i 0) now = true → (f (row.getD i 0)).2 < (f (row.getD j 0)).2
def PK (S : Nat → Prop) (f : Nat → Ln) (row : List Nat) (now : Rat) (e : Pr) : Prop :=
  ∃ k, ¬ S k ∧ k + 1 < row.length ∧ e.2 = (row.getD k 0, row.getD (k + 1) 0) ∧ till f (row.getD k 0) (row.getD (k + 1) 0) now = some e.1
def near (a : Nat) (k : Nat) : Prop := k + 1 = a ∨ k = a ∨ k = a + 1
def invc (f : Nat → Ln) : List Nat → Nat
  | [] => 0
  | a :: r => (r.countP fun b => decide ((f a).2 < (f b).2)) + invc f r
theorem invc_swap {f : Nat → Ln} {x y : Nat} (h : (f x).2 < (f y).2) (l2 : List Nat) : ∀ l1 : List Nat, invc f (l1 ++ y :: x :: l2) < invc f (l1 ++ x :: y :: l2)
  | [] => by
    have h' : ¬ (f y).2 < (f x).2 := by grind
    simp only [List.nil_append, invc, List.countP_cons, decide_eq_true h, decide_eq_false h', if_true]
    simp
    omega
  | a :: l1 => by
    have ih := invc_swap h l2 l1
    have e : (l1 ++ y :: x :: l2).Perm (l1 ++ x :: y :: l2) := List.Perm.append_left _ (List.Perm.swap _ _ _)
    show ((l1 ++ y :: x :: l2).countP fun b => decide ((f a).2 < (f b).2)) + invc f (l1 ++ y :: x :: l2) < ((l1 ++ x :: y :: l2).countP fun b => decide ((f a).2 < (f b).2)) + invc f (l1 ++ x :: y :: l2)
    rw [e.countP_eq]
    omega
theorem invc_le (f : Nat → Ln) : ∀ l : List Nat, invc f l ≤ l.length * l.length
  | [] => Nat.le_refl _
  | a :: r => by
    have ih := invc_le f r
    have := @List.countP_le_length _ (fun b => decide ((f a).2 < (f b).2)) r
    unfold invc
    simp only [List.length_cons]
    have e : (r.length + 1) * (r.length + 1) = r.length * r.length + 2 * r.length + 1 := by
      rw [Nat.add_mul, Nat.mul_add]; omega
    omega
theorem split_at {row : List Nat} {a : Nat} (h : a + 1 < row.length) : row = row.take a ++ row.getD a 0 :: row.getD (a + 1) 0 :: row.drop (a + 2) := by
  have h1 : row.drop a = row.getD a 0 :: row.drop (a + 1) := by rw [getD_eq (by omega)]; exact List.drop_eq_getElem_cons (by omega)
  have h2 : row.drop (a + 1) = row.getD (a + 1) 0 :: row.drop (a + 2) := by rw [getD_eq h]; exact List.drop_eq_getElem_cons h
  rw [← h2, ← h1, List.take_append_drop]
theorem swapAt_eq (row : List Nat) (a : Nat) : swapAt row a = row.take a ++ row.getD (a + 1) 0 :: row.getD a 0 :: row.drop (a + 2) := by
  unfold swapAt
  simp
theorem swapAt_perm {row : List Nat} {a : Nat} (h : a + 1 < row.length) : (swapAt row a).Perm row := by
  rw [swapAt_eq]
  conv => rhs; rw [split_at h]
  exact List.Perm.append_left _ (List.Perm.swap _ _ _)
theorem swapAt_len {row : List Nat} {a : Nat} (h : a + 1 < row.length) : (swapAt row a).length = row.length := (swapAt_perm h).length_eq
theorem getD_app {l1 l2 : List Nat} {k : Nat} : (l1 ++ l2).getD k 0 = if k < l1.length then l1.getD k 0 else l2.getD (k - l1.length) 0 := by
  simp only [List.getD]
  by_cases h : k < l1.length
  · rw [if_pos h, List.getElem?_append_left h]
  · rw [if_neg h, List.getElem?_append_right (by omega)]
theorem swapAt_get {row : List Nat} {a k : Nat} (h : a + 1 < row.length) : (swapAt row a).getD k 0 = if k = a then row.getD (a + 1) 0 else if k = a + 1 then row.getD a 0 else row.getD k 0 := by
  rw [swapAt_eq, getD_app, List.length_take]
  have hm : min a row.length = a := by omega
  rw [hm]
  by_cases h1 : k < a
  · rw [if_pos h1, if_neg (by omega), if_neg (by omega)]
    simp [List.getD, List.getElem?_take, h1]
  · rw [if_neg h1]
    by_cases h2 : k = a
    · subst h2; simp [List.getD]
    · rw [if_neg h2]
      by_cases h3 : k = a + 1
      · subst h3
        rw [if_pos rfl, show a + 1 - a = 1 by omega]
        rfl
      · rw [if_neg h3]
        obtain ⟨j, rfl⟩ : ∃ j, k = a + 2 + j := ⟨k - (a + 2), by omega⟩
        rw [show a + 2 + j - a = j + 2 by omega]
        simp [List.getD, List.getElem?_drop]
theorem mem_getD {row : List Nat} {k : Nat} (h : k < row.length) : row.getD k 0 ∈ row := by
  rw [getD_eq h]; exact List.getElem_mem _
theorem nodup_ne {row : List Nat} (hn : row.Nodup) {i j : Nat} (hi : i < row.length) (hj : j < row.length) (h : i ≠ j) : row.getD i 0 ≠ row.getD j 0 := by
  rw [getD_eq hi, getD_eq hj]
  intro e
  exact h ((List.getElem_inj hn).mp e)
section
variable {n : Nat} {f : Nat → Ln} {row : List Nat} {now T : Rat}
theorem step_at (h : leastO (tills f row now) = some T) : atOf (tills f row now) T + 1 < row.length ∧ till f (row.getD (atOf (tills f row now) T) 0) (row.getD (atOf (tills f row now) T + 1) 0) now = some T ∧ now ≤ T ∧
    ∀ k x, k + 1 < row.length → till f (row.getD k 0) (row.getD (k + 1) 0) now = some x → T ≤ x := by
  obtain ⟨h1, h2⟩ := (leastO_spec (tills f row now)).1 T h
  obtain ⟨a1, a2, _⟩ := atOf_spec h1
  rw [tills_len] at a1
  have ha : atOf (tills f row now) T + 1 < row.length := by omega
  rw [tills_get ha] at a2
  have a3 := Option.some.inj a2
  refine ⟨ha, a3, till_ge a3, fun k x hk e => h2 x (mem_tills.mpr ⟨k, hk, e⟩)⟩
/-- the row's word at its next time -/
theorem wi_then (w : WI n f row now) (h : leastO (tills f row now) = some T) : WI n f row T := by
  obtain ⟨ha, h1, h2, h3⟩ := step_at h
  rcases Classical.em (now = T) with e | e
  · rw [← e]; exact w
  · refine ⟨w.1, w.2.1, fun i j hij hj hv => ?_⟩
    have adj : ∀ k, k + 1 < row.length → ahead f (row.getD k 0) (row.getD (k + 1) 0) now = true := by
      intro k hk
      have hne := nodup_ne w.1 (show k < row.length by omega) hk (by omega)
      have t1 := @ahead_tot f (row.getD k 0) (row.getD (k + 1) 0) now hne
      by_cases c : ahead f (row.getD (k + 1) 0) (row.getD k 0) now = true
      · exfalso
        have := h3 k now hk (by unfold till; rw [if_pos c])
        grind
      · rw [t1]; simpa using c
    have all : ∀ j i, i < j → j < row.length → ahead f (row.getD i 0) (row.getD j 0) now = true := by
      intro j
      induction j with
      | zero => intro i hi _; omega
      | succ j ih =>
        intro i hi hj
        by_cases c : i = j
        · rw [c]; exact adj j hj
        · exact ahead_trans (ih i (by omega) (by omega)) (adj j hj)
    exact over_steep (nodup_ne w.1 (by omega) hj (by omega)) (all j i hij hj) h2 hv
theorem step_wi (w : WI n f row now) (h : leastO (tills f row now) = some T) : WI n f (swapAt row (atOf (tills f row now) T)) T ∧ invc f (swapAt row (atOf (tills f row now) T)) < invc f row := by
  obtain ⟨ha, h1, h2, h3⟩ := step_at h
  have w' := wi_then w h
  generalize atOf (tills f row now) T = a at *
  have hne := nodup_ne w.1 (show a < row.length by omega) ha (by omega)
  have ov := till_over hne h1
  have sl := w'.2.2 a (a + 1) (by omega) ha ov
  have t1 := @ahead_tot f (row.getD a 0) (row.getD (a + 1) 0) T hne
  refine ⟨⟨(swapAt_perm ha).nodup_iff.mpr w.1, fun x hx => w.2.1 x ((swapAt_perm ha).mem_iff.mp hx), fun i j hij hj => ?_⟩, ?_⟩
  · rw [swapAt_len ha] at hj
    rw [swapAt_get ha, swapAt_get ha]
    by_cases c1 : i = a
    · by_cases c2 : j = a + 1
      · rw [if_pos c1, if_neg (by omega), if_pos c2]
        intro z
        rw [t1, ov] at z
        cases z
      · rw [if_pos c1, if_neg (by omega), if_neg c2]
        exact w'.2.2 (a + 1) j (by omega) hj
    · rw [if_neg c1]
      by_cases c3 : i = a + 1
      · rw [if_pos c3, if_neg (by omega), if_neg (by omega)]
        exact w'.2.2 a j (by omega) hj
      · rw [if_neg c3]
        by_cases c4 : j = a
        · rw [if_pos c4]
          exact w'.2.2 i (a + 1) (by omega) ha
        · rw [if_neg c4]
          by_cases c5 : j = a + 1
          · rw [if_pos c5]
            exact w'.2.2 i a (by omega) (by omega)
          · rw [if_neg c5]
            exact w'.2.2 i j hij hj
  · rw [swapAt_eq]
    conv => rhs; rw [split_at ha]
    exact invc_swap sl _ _
theorem step_pk (w : WI n f row now) (h : leastO (tills f row now) = some T) (e : Pr) :
    PK (near (atOf (tills f row now) T)) f row now e ↔ PK (near (atOf (tills f row now) T)) f (swapAt row (atOf (tills f row now) T)) T e := by
  obtain ⟨ha, h1, h2, h3⟩ := step_at h
  generalize atOf (tills f row now) T = a at *
  have keep : ∀ k, k + 1 < row.length → till f (row.getD k 0) (row.getD (k + 1) 0) T = till f (row.getD k 0) (row.getD (k + 1) 0) now := fun k hk =>
    till_keep (nodup_ne w.1 (by omega) hk (by omega)) h2 fun x hx => h3 k x hk hx
  have same : ∀ k, ¬ near a k → (swapAt row a).getD k 0 = row.getD k 0 ∧ (swapAt row a).getD (k + 1) 0 = row.getD (k + 1) 0 := by
    intro k hk
    unfold near at hk
    rw [swapAt_get ha, swapAt_get ha]
    refine ⟨?_, ?_⟩
    · rw [if_neg (by omega), if_neg (by omega)]
    · rw [if_neg (by omega), if_neg (by omega)]
  constructor
  · rintro ⟨k, hk, hl, e1, e2⟩
    obtain ⟨s1, s2⟩ := same k hk
    exact ⟨k, hk, by rw [swapAt_len ha]; exact hl, by rw [s1, s2]; exact e1, by rw [s1, s2, keep k hl]; exact e2⟩
  · rintro ⟨k, hk, hl, e1, e2⟩
    rw [swapAt_len ha] at hl
    obtain ⟨s1, s2⟩ := same k hk
    rw [s1, s2] at e1 e2
    exact ⟨k, hk, hl, e1, by rw [← keep k hl]; exact e2⟩
end
theorem wi_start (n : Nat) (f : Nat → Ln) (t : Rat) : WI n f (order n f t) t := by
  refine ⟨order_nodup n f t, fun x hx => order_mem.mp hx, fun i j hij hj hv => ?_⟩
  have := (order_srt n f t).at hij hj
  have hne := nodup_ne (order_nodup n f t) (show i < _ by omega) hj (by omega)
  have t1 := @ahead_tot f _ _ t hne
  rw [this, hv] at t1
  cases t1
/-- the pairs of a row, told apart by their place -/
theorem pk_inj {S S' : Nat → Prop} {f : Nat → Ln} {row : List Nat} {now : Rat} {k : Nat} {e : Pr} (hn : row.Nodup) (hk : k + 1 < row.length) (e1 : e.2 = (row.getD k 0, row.getD (k + 1) 0)) (hS : S k) : ¬ PK S f row now e := by
  rintro ⟨j, hj, hl, e2, _⟩
  rw [e1] at e2
  have e3 := congrArg Prod.fst e2
  simp only at e3
  by_cases c : k = j
  · rw [c] at hS; exact hj hS
  · exact nodup_ne hn (by omega) (by omega) c e3
end LT

-- P1
set_option linter.all false
set_option maxRecDepth 100000
namespace PF
open PySem PySem.Spec PyProof.Rows L2
abbrev PD := PyData
/-! ### data over a heap -/
theorem rd_ex {H H' : Hp} {a : Addr} {u : HO} (e : Same H H') (h : Rd H a u) : Rd H' a u := by
  rcases h with h | ⟨o, h⟩
  · exact .inl (e a _ h)
  · exact .inr ⟨o, e a _ h⟩
theorem sql_ex {K : PySem.W.Frag} {H H' : Hp} {a : Addr} {xs : List V} (e : Same H H') (h : SqL K H a xs) : SqL K H' a xs := by
  rcases h with h | h
  · exact .inl (rd_ex e h)
  · exact .inr h
theorem sqt_ex {K : PySem.W.Frag} {H H' : Hp} {a : Addr} {xs : List V} (e : Same H H') (h : SqT K H a xs) : SqT K H' a xs := by
  rcases h with h | h
  · exact .inl (rd_ex e h)
  · exact .inr h
section
variable {K : PySem.W.Frag} {H H' : Hp}
mutual
theorem dp_ex (e : Same H H') : ∀ {d : PD} {v : V}, Dp K H v d → Dp K H' v d
  | .none, _, h => by cases h; exact .non
  | .bool b, _, h => by cases h; exact .bl b
  | .int i, _, h => by cases h; exact .int i
  | .str x, _, h => by cases h; exact .str x
  | .list ds, _, h => by
    cases h with
    | lst hs ha => exact .lst (sql_ex e hs) (dpa_ex e ha)
  | .tuple ds, _, h => by
    cases h with
    | tup hs ha => exact .tup (sqt_ex e hs) (dpa_ex e ha)
  | .dict _, _, h => by cases h
theorem dpa_ex (e : Same H H') : ∀ {ds : List PD} {vs : List V}, DpAll K H vs ds → DpAll K H' vs ds
  | [], _, h => by cases h; exact .nil
  | d :: ds, _, h => by
    cases h with
    | cons h1 h2 => exact .cons (dp_ex e h1) (dpa_ex e h2)
end
end
/-- lists stand in B, tuples in H -/
inductive Dq (K : PySem.W.Frag) (B H : Hp) : V → PD → Prop
  | base {v : V} {d : PD} : Dp K B v d → Dq K B H v d
  | tup0 {a : Addr} : SqT K H a [] → Dq K B H (.ref a) (.tuple [])
  | tupc {a : Addr} {x : V} {xs : List V} {d : PD} {ds : List PD} : SqT K H a (x :: xs) → Dq K B H x d → (∀ (k : Nat) (v : V) (e : PD), xs[k]? = some v → ds[k]? = some e → Dq K B H v e) → xs.length = ds.length → Dq K B H (.ref a) (.tuple (d :: ds))
def DqAll (K : PySem.W.Frag) (B H : Hp) (xs : List V) (ds : List PD) : Prop := xs.length = ds.length ∧ ∀ (k : Nat) (v : V) (e : PD), xs[k]? = some v → ds[k]? = some e → Dq K B H v e
theorem dpa_iff {K : PySem.W.Frag} {H : Hp} : ∀ {ds : List PD} {xs : List V}, DpAll K H xs ds ↔ xs.length = ds.length ∧ ∀ (k : Nat) (v : V) (e : PD), xs[k]? = some v → ds[k]? = some e → Dp K H v e
  | [], xs => by
    constructor
    · intro h; cases h; exact ⟨rfl, fun k v e h1 h2 => by simp at h1⟩
    · rintro ⟨h, _⟩
      have : xs = [] := List.length_eq_zero_iff.mp h
      subst this
      exact .nil
  | d :: ds, [] => by
    constructor
    · intro h; cases h
    · rintro ⟨h, _⟩; cases h
  | d :: ds, x :: xs => by
    have ih := @dpa_iff K H ds xs
    constructor
    · intro h
      cases h with
      | cons h1 h2 =>
        obtain ⟨l, i⟩ := ih.mp h2
        refine ⟨by simp [l], fun k v e e1 e2 => ?_⟩
        cases k with
        | zero => simp at e1 e2; subst e1 e2; exact h1
        | succ k => exact i k v e (by simpa using e1) (by simpa using e2)
    · rintro ⟨l, i⟩
      exact .cons (i 0 x d rfl rfl) (ih.mpr ⟨by simpa using l, fun k v e e1 e2 => i (k + 1) v e (by simpa using e1) (by simpa using e2)⟩)
theorem Dq.tup {K : PySem.W.Frag} {B H : Hp} {a : Addr} {xs : List V} {ds : List PD} (h : SqT K H a xs) (ha : DqAll K B H xs ds) : Dq K B H (.ref a) (.tuple ds) := by
  obtain ⟨l, i⟩ := ha
  cases ds with
  | nil =>
    have : xs = [] := List.length_eq_zero_iff.mp l
    subst this
    exact .tup0 h
  | cons d ds =>
    cases xs with
    | nil => cases l
    | cons x xs => exact .tupc h (i 0 x d rfl rfl) (fun k v e e1 e2 => i (k + 1) v e (by simpa using e1) (by simpa using e2)) (by simpa using l)
theorem DqAll.nil {K : PySem.W.Frag} {B H : Hp} : DqAll K B H [] [] := ⟨rfl, fun k v e h => by simp at h⟩
theorem DqAll.cons {K : PySem.W.Frag} {B H : Hp} {x : V} {d : PD} {xs : List V} {ds : List PD} (h : Dq K B H x d) (ha : DqAll K B H xs ds) : DqAll K B H (x :: xs) (d :: ds) := by
  obtain ⟨l, i⟩ := ha
  refine ⟨by simp [l], fun k v e e1 e2 => ?_⟩
  cases k with
  | zero => simp at e1 e2; subst e1 e2; exact h
  | succ k => exact i k v e (by simpa using e1) (by simpa using e2)
theorem DqAll.snoc {K : PySem.W.Frag} {B H : Hp} {x : V} {d : PD} {xs : List V} {ds : List PD} (ha : DqAll K B H xs ds) (h : Dq K B H x d) : DqAll K B H (xs ++ [x]) (ds ++ [d]) := by
  obtain ⟨l, i⟩ := ha
  refine ⟨by simp [l], fun k v e e1 e2 => ?_⟩
  by_cases c : k < xs.length
  · rw [List.getElem?_append_left c] at e1
    rw [List.getElem?_append_left (by omega)] at e2
    exact i k v e e1 e2
  · rw [List.getElem?_append_right (by omega)] at e1
    rw [List.getElem?_append_right (by omega)] at e2
    obtain ⟨k', hk⟩ : ∃ k', k - xs.length = k' := ⟨_, rfl⟩
    rw [hk] at e1
    rw [← l, hk] at e2
    cases k' with
    | zero => simp at e1 e2; subst e1 e2; exact h
    | succ k' => simp at e1
theorem DqAll.app {K : PySem.W.Frag} {B H : Hp} {xs ys : List V} {ds es : List PD} (ha : DqAll K B H xs ds) (hb : DqAll K B H ys es) : DqAll K B H (xs ++ ys) (ds ++ es) := by
  obtain ⟨l, i⟩ := ha
  obtain ⟨l', i'⟩ := hb
  refine ⟨by simp [l, l'], fun k v e e1 e2 => ?_⟩
  by_cases c : k < xs.length
  · rw [List.getElem?_append_left c] at e1
    rw [List.getElem?_append_left (by omega)] at e2
    exact i k v e e1 e2
  · rw [List.getElem?_append_right (by omega)] at e1
    rw [List.getElem?_append_right (by omega), ← l] at e2
    exact i' _ v e e1 e2
theorem DqAll.take {K : PySem.W.Frag} {B H : Hp} {xs : List V} {ds : List PD} (n : Nat) (ha : DqAll K B H xs ds) : DqAll K B H (xs.take n) (ds.take n) := by
  obtain ⟨l, i⟩ := ha
  refine ⟨by simp [l], fun k v e e1 e2 => ?_⟩
  rw [List.getElem?_take] at e1 e2
  split at e1
  · rename_i c; rw [if_pos c] at e2; exact i k v e e1 e2
  · cases e1
theorem DqAll.drop {K : PySem.W.Frag} {B H : Hp} {xs : List V} {ds : List PD} (n : Nat) (ha : DqAll K B H xs ds) : DqAll K B H (xs.drop n) (ds.drop n) := by
  obtain ⟨l, i⟩ := ha
  refine ⟨by simp [l], fun k v e e1 e2 => ?_⟩
  rw [List.getElem?_drop] at e1 e2
  exact i _ v e e1 e2
section
variable {K : PySem.W.Frag} {B B' H H' : Hp} {v : V} {d : PD} {xs : List V} {ds : List PD}
theorem Dq.mono (t : ∀ a xs, SqT K H a xs → SqT K H' a xs) (h : Dq K B H v d) : Dq K B H' v d := by
  induction h with
  | base h => exact .base h
  | tup0 h => exact .tup0 (t _ _ h)
  | tupc h _ _ l ih1 ih2 => exact .tupc (t _ _ h) ih1 ih2 l
theorem DqAll.mono (t : ∀ a xs, SqT K H a xs → SqT K H' a xs) (h : DqAll K B H xs ds) : DqAll K B H' xs ds := ⟨h.1, fun k v e e1 e2 => (h.2 k v e e1 e2).mono t⟩
theorem Dq.ex (e : Same H H') (h : Dq K B H v d) : Dq K B H' v d := h.mono fun _ _ q => sqt_ex e q
theorem DqAll.ex (e : Same H H') (h : DqAll K B H xs ds) : DqAll K B H' xs ds := h.mono fun _ _ q => sqt_ex e q
theorem Dq.dp (e : Same B H) (h : Dq K B H v d) : Dp K H v d := by
  induction h with
  | base h => exact dp_ex e h
  | tup0 h => exact .tup h .nil
  | tupc h _ _ l ih1 ih2 => exact .tup h (.cons ih1 (dpa_iff.mpr ⟨l, ih2⟩))
theorem DqAll.dp (e : Same B H) (h : DqAll K B H xs ds) : DpAll K H xs ds := dpa_iff.mpr ⟨h.1, fun k v d e1 e2 => (h.2 k v d e1 e2).dp e⟩
/-- no lists within -/
def noL : PD → Bool
  | .none => true
  | .bool _ => true
  | .int _ => true
  | .str _ => true
  | .list _ => false
  | .tuple ds => noLs ds
  | .dict _ => false
where noLs : List PD → Bool
  | [] => true
  | d :: ds => noL d && noLs ds
mutual
theorem dq_of : ∀ {d : PD} {v : V}, noL d = true → Dp K H v d → Dq K B H v d
  | .none, _, _, h => by cases h; exact .base .non
  | .bool b, _, _, h => by cases h; exact .base (.bl b)
  | .int i, _, _, h => by cases h; exact .base (.int i)
  | .str x, _, _, h => by cases h; exact .base (.str x)
  | .list ds, _, n, h => by simp [noL] at n
  | .tuple ds, _, n, h => by
    cases h with
    | tup hs ha => exact .tup hs (dqa_of (by simpa [noL] using n) ha)
  | .dict _, _, _, h => by cases h
theorem dqa_of : ∀ {ds : List PD} {xs : List V}, noL.noLs ds = true → DpAll K H xs ds → DqAll K B H xs ds
  | [], _, _, h => by cases h; exact .nil
  | d :: ds, _, n, h => by
    cases h with
    | cons h1 h2 =>
      have n' : noL d = true ∧ noL.noLs ds = true := by simpa [noL.noLs] using n
      exact .cons (dq_of n'.1 h1) (dqa_of n'.2 h2)
end
theorem noLs_iff : ∀ {ds : List PD}, noL.noLs ds = true ↔ ∀ d ∈ ds, noL d = true
  | [] => by simp [noL.noLs]
  | d :: ds => by
    have ih := @noLs_iff ds
    simp [noL.noLs, ih]
theorem DqAll.get {k : Nat} {e : PD} (h : DqAll K B H xs ds) (he : ds[k]? = some e) : ∃ v, xs[k]? = some v ∧ Dq K B H v e := by
  have hk : k < ds.length := (List.getElem?_eq_some_iff.mp he).1
  have hx : xs[k]? = some (xs[k]'(by rw [h.1]; exact hk)) := List.getElem?_eq_getElem _
  exact ⟨_, hx, h.2 k _ e hx he⟩
/-- a tuple of data -/
theorem Dq.tup_inv (e : Same B H) (h : Dq K B H v (.tuple ds)) : ∃ a xs, v = .ref a ∧ SqT K H a xs ∧ DqAll K B H xs ds := by
  generalize hd : PyData.tuple ds = d at h
  cases h with
  | base h =>
    subst hd
    cases h with
    | tup hs ha =>
      obtain ⟨l, i⟩ := dpa_iff.mp ha
      exact ⟨_, _, rfl, sqt_ex e hs, l, fun k v e e1 e2 => .base (i k v e e1 e2)⟩
  | tup0 h => cases hd; exact ⟨_, _, rfl, h, .nil⟩
  | tupc h h1 h2 l => cases hd; exact ⟨_, _, rfl, h, .cons h1 ⟨l, h2⟩⟩
theorem Dq.lst_inv (h : Dq K B H v (.list ds)) : Dp K B v (.list ds) := by
  generalize hd : PyData.list ds = d at h
  cases h with
  | base h => subst hd; exact h
  | tup0 h => cases hd
  | tupc h => cases hd
theorem Dq.rebase (e : Same B B') (h : Dq K B H v d) : Dq K B' H v d := by
  induction h with
  | base h => exact .base (dp_ex e h)
  | tup0 h => exact .tup0 h
  | tupc h _ _ l ih1 ih2 => exact .tupc h ih1 ih2 l
end
theorem upd_sqt {K : PySem.W.Frag} {H : Hp} {p : Addr} {ys : List V} {o : HO} (hp : H p = some (.lst ys)) (a : Addr) (xs : List V) (h : SqT K H a xs) : SqT K (upd H p o) a xs := by
  rcases h with (h | ⟨ob, h⟩) | h
  · have : a ≠ p := by rintro rfl; rw [hp] at h; cases h
    exact .inl (.inl (by rw [upd_ne this]; exact h))
  · have : a ≠ p := by rintro rfl; rw [hp] at h; cases h
    exact .inl (.inr ⟨ob, by rw [upd_ne this]; exact h⟩)
  · exact .inr h
theorem same_new {H : Hp} {p : Addr} {o : HO} (h : H p = none) : Same H (upd H p o) := fun b x e => by
  rw [upd_ne (ne_of_none e h)]; exact e
end PF

-- P2
set_option linter.all false
set_option maxRecDepth 100000
namespace PF
open PySem PySem.Spec PyProof.Rows L2
/-! ### slots -/
inductive Sl where
  | no
  | im (d : PD)
  | ow (a : Addr) (ds : List PD)
  | vl (v : V)
def SlOk (K : PySem.W.Frag) (B H : Hp) (x : Option V) : Sl → Prop
  | .no => True
  | .im d => ∃ v, x = some v ∧ Dq K B H v d
  | .vl v => x = some v
  | .ow a ds => x = some (.ref a) ∧ B a = none ∧ ∃ xs, H a = some (.lst xs) ∧ DqAll K B H xs ds
def Own (G : List Sl) (a : Addr) : Prop := ∃ (i : Nat) (ds : List PD), G[i]? = some (.ow a ds)
structure Env (K : PySem.W.Frag) (B H : Hp) (σ : L2.St) (G : List Sl) : Prop where
  sm : Same B H
  len : σ.length = G.length
  at_ : ∀ (i : Nat) x s, σ[i]? = some x → G[i]? = some s → SlOk K B H x s
  nd : ∀ (i j : Nat) a ds es, G[i]? = some (.ow a ds) → G[j]? = some (.ow a es) → i = j
section
variable {K : PySem.W.Frag} {B H H' : Hp} {σ : L2.St} {G : List Sl}
theorem SlOk.ex {x : Option V} {s : Sl} (e : Same H H') (h : SlOk K B H x s) : SlOk K B H' x s := by
  cases s with
  | no => trivial
  | im d => obtain ⟨v, h1, h2⟩ := h; exact ⟨v, h1, h2.ex e⟩
  | ow a ds => obtain ⟨h1, h2, xs, h3, h4⟩ := h; exact ⟨h1, h2, xs, e _ _ h3, h4.ex e⟩
  | vl v => exact h
theorem Env.ex (e : Same H H') (h : Env K B H σ G) : Env K B H' σ G := ⟨h.sm.trans e, h.len, fun i x s h1 h2 => (h.at_ i x s h1 h2).ex e, h.nd⟩
theorem Env.slot (h : Env K B H σ G) {i : Nat} {s : Sl} (hs : G[i]? = some s) : ∃ x, σ[i]? = some x ∧ SlOk K B H x s := by
  have hi : i < σ.length := by rw [h.len]; exact (List.getElem?_eq_some_iff.mp hs).1
  exact ⟨σ[i], List.getElem?_eq_getElem hi, h.at_ i _ s (List.getElem?_eq_getElem hi) hs⟩
theorem Env.own_at (h : Env K B H σ G) {i : Nat} {a : Addr} {ds : List PD} (hs : G[i]? = some (.ow a ds)) : σ[i]? = some (some (.ref a)) ∧ B a = none ∧ ∃ xs, H a = some (.lst xs) ∧ DqAll K B H xs ds := by
  obtain ⟨x, h1, h2, h3, h4⟩ := h.slot hs
  subst h2
  exact ⟨h1, h3, h4⟩
theorem Env.own_some (h : Env K B H σ G) {a : Addr} (ho : Own G a) : ∃ xs, H a = some (.lst xs) := by
  obtain ⟨i, ds, hs⟩ := ho
  obtain ⟨_, _, xs, q, _⟩ := h.own_at hs
  exact ⟨xs, q⟩
theorem set_get {α : Type} {l : List α} {i j : Nat} {x y : α} (h : (l.set i x)[j]? = some y) : (i = j ∧ y = x) ∨ (i ≠ j ∧ l[j]? = some y) := by
  rw [List.getElem?_set] at h
  by_cases c : i = j
  · rw [if_pos c] at h
    split at h
    · exact .inl ⟨c, (Option.some.inj h).symm⟩
    · cases h
  · rw [if_neg c] at h
    exact .inr ⟨c, h⟩
theorem own_set_im {i : Nat} {d : PD} {a : Addr} (h : Own (G.set i (.im d)) a) : Own G a := by
  obtain ⟨j, ds, h⟩ := h
  rcases set_get h with ⟨_, q⟩ | ⟨_, q⟩
  · cases q
  · exact ⟨j, ds, q⟩
theorem own_set_no {i : Nat} {a : Addr} (h : Own (G.set i .no) a) : Own G a := by
  obtain ⟨j, ds, h⟩ := h
  rcases set_get h with ⟨_, q⟩ | ⟨_, q⟩
  · cases q
  · exact ⟨j, ds, q⟩
theorem own_set_ow {i : Nat} {b : Addr} {es : List PD} {a : Addr} (h : Own (G.set i (.ow b es)) a) : a = b ∨ Own G a := by
  obtain ⟨j, ds, h⟩ := h
  rcases set_get h with ⟨_, q⟩ | ⟨_, q⟩
  · cases q; exact .inl rfl
  · exact .inr ⟨j, ds, q⟩
theorem Env.set_im (h : Env K B H σ G) {v : V} {d : PD} (i : Nat) (hv : Dq K B H v d) : Env K B H (σ.set i (some v)) (G.set i (.im d)) := by
  refine ⟨h.sm, by simp [h.len], fun j x s h1 h2 => ?_, fun j k a ds es h1 h2 => ?_⟩
  · rcases set_get h1 with ⟨c, rfl⟩ | ⟨c, q1⟩
    · rcases set_get h2 with ⟨_, rfl⟩ | ⟨c', _⟩
      · exact ⟨v, rfl, hv⟩
      · exact absurd c c'
    · rcases set_get h2 with ⟨c', _⟩ | ⟨_, q2⟩
      · exact absurd c' c
      · exact h.at_ j x s q1 q2
  · rcases set_get h1 with ⟨_, q⟩ | ⟨_, q1⟩
    · cases q
    · rcases set_get h2 with ⟨_, q⟩ | ⟨_, q2⟩
      · cases q
      · exact h.nd j k a ds es q1 q2
theorem Env.set_no (h : Env K B H σ G) (i : Nat) (y : Option V) : Env K B H (σ.set i y) (G.set i .no) := by
  refine ⟨h.sm, by simp [h.len], fun j x s h1 h2 => ?_, fun j k a ds es h1 h2 => ?_⟩
  · rcases set_get h2 with ⟨c, rfl⟩ | ⟨c, q2⟩
    · trivial
    · rcases set_get h1 with ⟨c', _⟩ | ⟨_, q1⟩
      · exact absurd c' c
      · exact h.at_ j x s q1 q2
  · rcases set_get h1 with ⟨_, q⟩ | ⟨_, q1⟩
    · cases q
    · rcases set_get h2 with ⟨_, q⟩ | ⟨_, q2⟩
      · cases q
      · exact h.nd j k a ds es q1 q2
theorem Env.set_ow (h : Env K B H σ G) {a : Addr} {xs : List V} {ds : List PD} (i : Nat) (hb : B a = none) (hH : H a = some (.lst xs)) (hd : DqAll K B H xs ds) (hn : ¬ Own G a) : Env K B H (σ.set i (some (.ref a))) (G.set i (.ow a ds)) := by
  refine ⟨h.sm, by simp [h.len], fun j x s h1 h2 => ?_, fun j k b es fs h1 h2 => ?_⟩
  · rcases set_get h1 with ⟨c, rfl⟩ | ⟨c, q1⟩
    · rcases set_get h2 with ⟨_, rfl⟩ | ⟨c', _⟩
      · exact ⟨rfl, hb, xs, hH, hd⟩
      · exact absurd c c'
    · rcases set_get h2 with ⟨c', _⟩ | ⟨_, q2⟩
      · exact absurd c' c
      · exact h.at_ j x s q1 q2
  · rcases set_get h1 with ⟨c1, q1⟩ | ⟨c1, q1⟩
    · cases q1
      rcases set_get h2 with ⟨c2, q2⟩ | ⟨_, q2⟩
      · exact c1.symm.trans c2
      · exact absurd ⟨k, fs, q2⟩ hn
    · rcases set_get h2 with ⟨_, q2⟩ | ⟨_, q2⟩
      · cases q2; exact absurd ⟨j, es, q1⟩ hn
      · exact h.nd j k b es fs q1 q2
/-- an own list is changed -/
theorem Env.upd (h : Env K B H σ G) {i : Nat} {a : Addr} {ds es : List PD} {ys : List V} (hs : G[i]? = some (.ow a ds)) (hd : DqAll K B H ys es) : Env K B (upd H a (.lst ys)) σ (G.set i (.ow a es)) := by
  obtain ⟨g1, g2, xs, g3, g4⟩ := h.own_at hs
  have ts := upd_sqt (K := K) (o := .lst ys) g3
  refine ⟨fun b o e => ?_, by simp [h.len], fun j x s h1 h2 => ?_, fun j k b fs gs h1 h2 => ?_⟩
  · rw [upd_ne (by rintro rfl; rw [g2] at e; cases e)]
    exact h.sm b o e
  · rcases set_get h2 with ⟨c, rfl⟩ | ⟨c, q2⟩
    · subst c
      rw [g1] at h1
      cases h1
      exact ⟨rfl, g2, ys, upd_same, hd.mono ts⟩
    · have q := h.at_ j x s h1 q2
      cases s with
      | no => trivial
      | im d => obtain ⟨v, e1, e2⟩ := q; exact ⟨v, e1, e2.mono ts⟩
      | vl v => exact q
      | ow b fs =>
        obtain ⟨e1, e2, zs, e3, e4⟩ := q
        have : b ≠ a := by rintro rfl; exact c (h.nd i j b ds fs hs q2)
        exact ⟨e1, e2, zs, by rw [upd_ne this]; exact e3, e4.mono ts⟩
  · rcases set_get h1 with ⟨c1, q1⟩ | ⟨c1, q1⟩
    · cases q1
      rcases set_get h2 with ⟨c2, q2⟩ | ⟨c2, q2⟩
      · exact c1.symm.trans c2
      · exact c1.symm.trans (h.nd i k a ds gs hs q2)
    · rcases set_get h2 with ⟨c2, q2⟩ | ⟨c2, q2⟩
      · cases q2; exact (h.nd j i a fs ds q1 hs).trans c2
      · exact h.nd j k b fs gs q1 q2
/-- what a slot holds, as data -/
def Sl.dat : Sl → Option PD
  | .no => none
  | .im d => some d
  | .ow _ ds => some (.list ds)
  | .vl _ => none
/-- all as it stands, over the heap itself -/
def Sl.frz : Sl → Sl
  | .ow _ ds => .im (.list ds)
  | s => s
def frz (G : List Sl) : List Sl := G.map Sl.frz
theorem Env.frz (h : Env K B H σ G) : Env K H H σ (frz G) := by
  refine ⟨Same.refl H, by simp [PF.frz, h.len], fun i x s h1 h2 => ?_, fun i j a ds es h1 h2 => ?_⟩
  · unfold PF.frz at h2
    rw [List.getElem?_map] at h2
    obtain ⟨s', hs, rfl⟩ := Option.map_eq_some_iff.mp h2
    have q := h.at_ i x s' h1 hs
    cases s' with
    | no => trivial
    | im d => obtain ⟨v, e1, e2⟩ := q; exact ⟨v, e1, e2.rebase h.sm⟩
    | ow a ds => obtain ⟨e1, e2, xs, e3, e4⟩ := q; exact ⟨_, e1, .base (.lst (.of e3) (e4.dp h.sm))⟩
    | vl v => exact q
  · unfold PF.frz at h1
    rw [List.getElem?_map] at h1
    obtain ⟨s', hs, e⟩ := Option.map_eq_some_iff.mp h1
    cases s' <;> cases e
/-- the frame: what else stood stands -/
structure Fr (G G' : List Sl) (H H' : Hp) : Prop where
  keep : ∀ a o, ¬ Own G a → H a = some o → H' a = some o
  own : ∀ a, Own G' a → Own G a ∨ H a = none
  there : ∀ a, H' a = none → H a = none
theorem Fr.refl : Fr G G H H := ⟨fun _ _ _ h => h, fun _ h => .inl h, fun _ h => h⟩
theorem Fr.trans {G1 G2 : List Sl} {H1 H2 : Hp} (a : Fr G G1 H H1) (b : Fr G1 G2 H1 H2) : Fr G G2 H H2 := by
  refine ⟨fun x o h1 h2 => b.keep x o (fun z => ?_) (a.keep x o h1 h2), fun x h => ?_, fun x h => a.there x (b.there x h)⟩
  · rcases a.own x z with q | q
    · exact h1 q
    · rw [h2] at q; cases q
  · rcases b.own x h with q | q
    · exact a.own x q
    · exact .inr (a.there x q)
theorem same_there (e : Same H H') (a : Addr) (h : H' a = none) : H a = none := by
  cases q : H a with
  | none => rfl
  | some o => rw [e a o q] at h; cases h
theorem Fr.same (e : Same H H') : Fr G G H H' := ⟨fun a o _ h => e a o h, fun _ h => .inl h, same_there e⟩
theorem Fr.im (e : Same H H') {i : Nat} {d : PD} : Fr G (G.set i (.im d)) H H' := ⟨fun a o _ h => e a o h, fun _ h => .inl (own_set_im h), same_there e⟩
theorem Fr.no (e : Same H H') {i : Nat} : Fr G (G.set i .no) H H' := ⟨fun a o _ h => e a o h, fun _ h => .inl (own_set_no h), same_there e⟩
end
/-! ### expressions -/
section
variable (K : PySem.W.Frag) (B : Hp)
def Ev (te : TE) (G : List Sl) (d : PD) : Prop := ∀ σ H, Env K B H σ G → ∀ Q : VK, (∀ v H', Same H H' → Dq K B H' v d → Q v H') → te σ H Q
def EvP (te : TE) (G : List Sl) (d : PD) : Prop := ∀ σ H, Env K B H σ G → ∀ Q : VK, (∀ v H', Same H H' → Dp K H' v d → Q v H') → te σ H Q
/-- a new list -/
def EvO (te : TE) (G : List Sl) (ds : List PD) : Prop := ∀ σ H, Env K B H σ G → ∀ Q : VK, (∀ a H' xs, H a = none → Same H H' → H' a = some (.lst xs) → DpAll K H' xs ds → Q (.ref a) H') → te σ H Q
def EvA (ta : TA) (G : List Sl) (ds : List PD) : Prop := ∀ σ H, Env K B H σ G → ∀ Q : List V → Hp → Prop, (∀ vs H', Same H H' → DqAll K B H' vs ds → Q vs H') → ta σ H Q
def EvAP (ta : TA) (G : List Sl) (ds : List PD) : Prop := ∀ σ H, Env K B H σ G → ∀ Q : List V → Hp → Prop, (∀ vs H', Same H H' → DpAll K H' vs ds → Q vs H') → ta σ H Q
def EvT (tt : TT) (G : List Sl) (b : Bool) : Prop := ∀ σ H, Env K B H σ G → ∀ Q : Bool → Hp → Prop, (∀ H', Same H H' → Q b H') → tt σ H Q
/-- an operation on two values: its answer a scalar -/
def Op (r : R2) (d e x : PD) : Prop := ∀ H v1 v2, Dp K H v1 d → Dp K H v2 e → ∀ Q : VK, (∀ v, (∀ H', Dp K H' v x) → Q v H) → r v1 v2 H Q
end
section
variable {K : PySem.W.Frag} {B : Hp} {G : List Sl} {te ta tb : TE} {t u : TT} {d e x : PD} {ds es : List PD}
theorem Ev.p (h : Ev K B te G d) : EvP K B te G d := fun σ H I Q q => h σ H I Q fun v H' e hd => q v H' e (hd.dp (I.sm.trans e))
theorem EvP.q (h : EvP K B te G d) (n : noL d = true) : Ev K B te G d := fun σ H I Q q => h σ H I Q fun v H' e hd => q v H' e (dq_of n hd)
theorem EvO.p (h : EvO K B te G ds) : EvP K B te G (.list ds) := fun σ H I Q q => h σ H I Q fun a H' xs hn e ha hd => q _ H' e (.lst (.of ha) hd)
theorem Ev.is (h : Ev K B te G d) (e : d = x) : Ev K B te G x := e ▸ h
theorem EvP.is (h : EvP K B te G d) (e : d = x) : EvP K B te G x := e ▸ h
theorem EvO.is (h : EvO K B te G ds) (e : ds = es) : EvO K B te G es := e ▸ h
theorem EvT.is {a b : Bool} (h : EvT K B t G a) (e : a = b) : EvT K B t G b := e ▸ h
theorem ev_var {i : Nat} (hs : G[i]? = some (.im d)) : Ev K B (tVar i) G d := fun σ H I Q q => by
  obtain ⟨x, h1, v, h2, h3⟩ := I.slot hs
  subst h2
  exact ⟨v, h1, q v H (Same.refl H) h3⟩
theorem ep_var {i : Nat} {a : Addr} (hs : G[i]? = some (.ow a ds)) : EvP K B (tVar i) G (.list ds) := fun σ H I Q q => by
  obtain ⟨h1, h2, xs, h3, h4⟩ := I.own_at hs
  exact ⟨_, h1, q _ H (Same.refl H) (.lst (.of h3) (h4.dp I.sm))⟩
theorem ev_int {i : Int} : Ev K B (tC (.int i)) G (.int i) := fun σ H I Q q => q _ H (Same.refl H) (.base (.int i))
theorem ev_non : Ev K B (tC .non) G .none := fun σ H I Q q => q _ H (Same.refl H) (.base .non)
theorem ev_bl {b : Bool} : Ev K B (tC (.bl b)) G (.bool b) := fun σ H I Q q => q _ H (Same.refl H) (.base (.bl b))
theorem ev_str {s : Str} : Ev K B (tC (.str s)) G (.str s) := fun σ H I Q q => q _ H (Same.refl H) (.base (.str s))
theorem ev_op {r : R2} (ha : EvP K B ta G d) (hb : EvP K B tb G e) (hr : Op K r d e x) : Ev K B (tOp r ta tb) G x := fun σ H I Q q =>
  ha σ H I _ fun v1 H1 e1 h1 => hb σ H1 (I.ex e1) _ fun v2 H2 e2 h2 => hr H2 v1 v2 (dp_ex e2 h1) h2 Q fun v hv => q v H2 (e1.trans e2) (.base (hv B))
/-! operations -/
theorem op_i0 {g : Int → Int → Int} {i j : Int} : Op K (rI0 fun i j => .int (g i j)) (.int i) (.int j) (.int (g i j)) := fun H v1 v2 h1 h2 Q q => by
  cases h1; cases h2; exact ⟨i, j, rfl, rfl, q _ fun _ => .int _⟩
theorem op_iC {C : Int → Int → Prop} {g : Int → Int → Int} {i j : Int} (hc : C i j) : Op K (rI C fun i j => .int (g i j)) (.int i) (.int j) (.int (g i j)) := fun H v1 v2 h1 h2 Q q => by
  cases h1; cases h2; exact ⟨i, j, rfl, rfl, hc, q _ fun _ => .int _⟩
theorem op_ib {g : Int → Int → Bool} {i j : Int} : Op K (rI0 fun i j => .bl (g i j)) (.int i) (.int j) (.bool (g i j)) := fun H v1 v2 h1 h2 Q q => by
  cases h1; cases h2; exact ⟨i, j, rfl, rfl, q _ fun _ => .bl _⟩
theorem op_eq' (h1 : SeqAt.shaped d = true) (h2 : SeqAt.shaped e = true) : Op K (rEqD K) d e (.bool (PyData.eqv d e)) := fun H v1 v2 g1 g2 Q q => ⟨d, e, g1, g2, h1, h2, q _ fun _ => .bl _⟩
theorem op_ne' (h1 : SeqAt.shaped d = true) (h2 : SeqAt.shaped e = true) : Op K (rNeD K) d e (.bool (!PyData.eqv d e)) := fun H v1 v2 g1 g2 Q q => ⟨d, e, g1, g2, h1, h2, q _ fun _ => .bl _⟩
def isN : PD → Bool
  | .none => true
  | _ => false
theorem dp_non {H : Hp} {v : V} (h : Dp K H v d) : decide (v = .non) = isN d := by
  cases h <;> simp [isN]
theorem op_is' : Op K (fun x y H Q => y = .non ∧ Q (.bl (decide (x = .non))) H) d .none (.bool (isN d)) := fun H v1 v2 g1 g2 Q q => by
  cases g2
  rw [dp_non g1]
  exact ⟨rfl, q _ fun _ => .bl _⟩
theorem op_isnot' : Op K (fun x y H Q => y = .non ∧ Q (.bl (!decide (x = .non))) H) d .none (.bool (!isN d)) := fun H v1 v2 g1 g2 Q q => by
  cases g2
  rw [dp_non g1]
  exact ⟨rfl, q _ fun _ => .bl _⟩
/-! subscripts -/
theorem atI_dq {H : Hp} {xs : List V} {ds : List PD} {i : Int} {d : PD} (h : DqAll K B H xs ds) (ha : atI ds i = some d) : ∃ v, atI xs i = some v ∧ Dq K B H v d := by
  unfold atI at *
  rw [h.1]
  obtain ⟨j, hj, hd⟩ := Option.bind_eq_some_iff.mp ha
  obtain ⟨v, h1, h2⟩ := h.get hd
  exact ⟨v, by rw [hj]; exact h1, h2⟩
theorem ev_ixT {i : Int} (ha : Ev K B ta G (.tuple ds)) (hb : EvP K B tb G (.int i)) (hi : atI ds i = some d) : Ev K B (tOp (rIxT K) ta tb) G d := fun σ H I Q q =>
  ha σ H I _ fun v1 H1 e1 h1 => hb σ H1 (I.ex e1) _ fun v2 H2 e2 h2 => by
    cases h2
    obtain ⟨a, xs, rfl, h3, h4⟩ := (h1.ex e2).tup_inv (I.sm.trans (e1.trans e2))
    obtain ⟨v, h5, h6⟩ := atI_dq h4 hi
    exact ⟨a, xs, i, v, rfl, rfl, h3, h5, q v H2 (e1.trans e2) h6⟩
theorem ev_ixL {i : Int} (ha : Ev K B ta G (.list ds)) (hb : EvP K B tb G (.int i)) (hi : atI ds i = some d) : Ev K B (tOp (rIxL K) ta tb) G d := fun σ H I Q q =>
  ha σ H I _ fun v1 H1 e1 h1 => hb σ H1 (I.ex e1) _ fun v2 H2 e2 h2 => by
    cases h2
    have h3 := h1.lst_inv
    cases h3 with
    | @lst a xs _ hs hd =>
      obtain ⟨l, k⟩ := dpa_iff.mp hd
      have hq : DqAll K B H2 xs ds := ⟨l, fun n v e x1 x2 => .base (k n v e x1 x2)⟩
      obtain ⟨v, h5, h6⟩ := atI_dq hq hi
      exact ⟨a, xs, i, v, rfl, rfl, sql_ex (I.sm.trans (e1.trans e2)) hs, h5, q v H2 (e1.trans e2) h6⟩
theorem ev_ixV {i : Int} {j : Nat} {a : Addr} (hs : G[j]? = some (.ow a ds)) (hb : EvP K B tb G (.int i)) (hi : atI ds i = some d) : Ev K B (tOp (rIxL K) (tVar j) tb) G d := fun σ H I Q q => by
  obtain ⟨h1, h2, xs, h3, h4⟩ := I.own_at hs
  refine ⟨_, h1, hb σ H I _ fun v2 H2 e2 h5 => ?_⟩
  cases h5
  obtain ⟨v, h6, h7⟩ := atI_dq (h4.ex e2) hi
  exact ⟨a, xs, i, v, rfl, rfl, .of (e2 _ _ h3), h6, q v H2 e2 h7⟩
theorem ep_ixO {i : Int} (ha : EvO K B ta G ds) (hb : EvP K B tb G (.int i)) (hi : atI ds i = some d) : EvP K B (tOp (rIxL K) ta tb) G d := fun σ H I Q q =>
  ha σ H I _ fun a H1 xs hn e1 h1 hd => hb σ H1 (I.ex e1) _ fun v2 H2 e2 h2 => by
    cases h2
    obtain ⟨l, k⟩ := dpa_iff.mp hd
    have hq : DqAll K H1 H1 xs ds := ⟨l, fun n v e x1 x2 => .base (k n v e x1 x2)⟩
    obtain ⟨v, h5, h6⟩ := atI_dq hq hi
    exact ⟨a, xs, i, v, rfl, rfl, .of (e2 _ _ h1), h5, q v H2 (e1.trans e2) (dp_ex e2 (h6.dp (Same.refl _)))⟩
/-! argument lists, displays -/
theorem ea_nil : EvA K B tNil G [] := fun σ H I Q q => q [] H (Same.refl H) .nil
theorem ea_cons {tr : TA} (h : Ev K B te G d) (hr : EvA K B tr G ds) : EvA K B (tCons te tr) G (d :: ds) := fun σ H I Q q =>
  h σ H I _ fun v H1 e1 h1 => hr σ H1 (I.ex e1) _ fun vs H2 e2 h2 => q _ H2 (e1.trans e2) (.cons (h1.ex e2) h2)
theorem eap_nil : EvAP K B tNil G [] := fun σ H I Q q => q [] H (Same.refl H) .nil
theorem eap_cons {tr : TA} (h : EvP K B te G d) (hr : EvAP K B tr G ds) : EvAP K B (tCons te tr) G (d :: ds) := fun σ H I Q q =>
  h σ H I _ fun v H1 e1 h1 => hr σ H1 (I.ex e1) _ fun vs H2 e2 h2 => q _ H2 (e1.trans e2) (.cons (dp_ex e2 h1) h2)
theorem EvA.p {ta : TA} (h : EvA K B ta G ds) : EvAP K B ta G ds := fun σ H I Q q => h σ H I Q fun vs H' e hd => q vs H' e (hd.dp (I.sm.trans e))
theorem ev_tup {ta : TA} (h : EvA K B ta G ds) (hz : ds.length ≤ sizeLine := by simp only [List.length_cons, List.length_nil]; decide) : Ev K B (tTup ta) G (.tuple ds) := fun σ H I Q q =>
  h σ H I _ fun vs H1 e1 h1 => ⟨by rw [h1.1]; exact hz, fun p hp => q _ _ (e1.trans (same_new hp)) (.tup (.of upd_same) (h1.ex (same_new hp)))⟩
theorem ep_tup {ta : TA} (h : EvAP K B ta G ds) (hz : ds.length ≤ sizeLine := by simp only [List.length_cons, List.length_nil]; decide) : EvP K B (tTup ta) G (.tuple ds) := fun σ H I Q q =>
  h σ H I _ fun vs H1 e1 h1 => ⟨by rw [(dpa_iff.mp h1).1]; exact hz, fun p hp => q _ _ (e1.trans (same_new hp)) (.tup (.of upd_same) (dpa_ex (same_new hp) h1))⟩
theorem eo_lst {ta : TA} (h : EvAP K B ta G ds) (hz : ds.length ≤ sizeLine := by simp only [List.length_cons, List.length_nil]; decide) : EvO K B (tLst ta) G ds := fun σ H I Q q =>
  h σ H I _ fun vs H1 e1 h1 => ⟨by rw [(dpa_iff.mp h1).1]; exact hz, fun p hp => q _ _ _ (same_there e1 p hp) (e1.trans (same_new hp)) upd_same (dpa_ex (same_new hp) h1)⟩
/-! calls -/
/-- a promise: data in, data without lists out; a new list out -/
def SpI (K : PySem.W.Frag) (R : List PD → PD → Prop) : Sp := fun vs H Q _ => ∃ ds d, DpAll K H vs ds ∧ R ds d ∧ noL d = true ∧ ∀ v H', Same H H' → Dp K H' v d → Q v H'
def SpO (K : PySem.W.Frag) (R : List PD → List PD → Prop) : Sp := fun vs H Q _ => ∃ ds es, DpAll K H vs ds ∧ R ds es ∧ ∀ a H' xs, H a = none → Same H H' → H' a = some (.lst xs) → DpAll K H' xs es → Q (.ref a) H'
theorem ev_call {R : List PD → PD → Prop} {ta : TA} {E : XK} (h : EvAP K B ta G ds) (hR : R ds d) (hn : noL d = true) : Ev K B (tCall (SpI K R) [] E ta) G d := fun σ H I Q q =>
  h σ H I _ fun vs H1 e1 h1 => by
    rw [List.append_nil]
    exact ⟨ds, d, h1, hR, hn, fun v H2 e2 h2 => q v H2 (e1.trans e2) (dq_of hn h2)⟩
theorem eo_call {R : List PD → List PD → Prop} {ta : TA} {E : XK} (h : EvAP K B ta G ds) (hR : R ds es) : EvO K B (tCall (SpO K R) [] E ta) G es := fun σ H I Q q =>
  h σ H I _ fun vs H1 e1 h1 => by
    rw [List.append_nil]
    exact ⟨ds, es, h1, hR, fun a H2 xs hn e2 ha h2 => q a H2 xs (same_there e1 a hn) (e1.trans e2) ha h2⟩
/-! built-ins -/
theorem ev_len (h : EvP K B te G (.list ds)) : Ev K B (tCB (fun xs H Q => ∃ p ys, xs = [.ref p] ∧ (SqL K H p ys ∨ SqT K H p ys) ∧ Q (.int ys.length) H) (tCons te tNil)) G (.int ds.length) := fun σ H I Q q =>
  h σ H I _ fun v H1 e1 h1 => by
    cases h1 with
    | @lst a xs _ hs hd =>
      refine ⟨a, xs, rfl, .inl hs, ?_⟩
      rw [(dpa_iff.mp hd).1]
      exact q _ H1 e1 (.base (.int _))
theorem ev_abs {i : Int} (h : EvP K B te G (.int i)) : Ev K B (tCB (fun xs H Q => ∃ i, xs = [.int i] ∧ Q (.int (if i < 0 then -i else i)) H) (tCons te tNil)) G (.int (if i < 0 then -i else i)) := fun σ H I Q q =>
  h σ H I _ fun v H1 e1 h1 => by
    cases h1
    exact ⟨i, rfl, q _ H1 e1 (.base (.int _))⟩
theorem ev_min2 {i j : Int} (h : EvP K B ta G (.int i)) (h' : EvP K B tb G (.int j)) : Ev K B (tCB (fun xs H Q => ∃ i j, xs = [.int i, .int j] ∧ Q (.int (if j < i then j else i)) H) (tCons ta (tCons tb tNil))) G (.int (if j < i then j else i)) := fun σ H I Q q =>
  h σ H I _ fun v H1 e1 h1 => h' σ H1 (I.ex e1) _ fun v' H2 e2 h2 => by
    cases h1; cases h2
    exact ⟨i, j, rfl, q _ H2 (e1.trans e2) (.base (.int _))⟩
theorem eo_list (h : EvP K B te G (.list ds)) : EvO K B (tCB (fun xs H Q => ∃ p ys, xs = [.ref p] ∧ (SqL K H p ys ∨ SqT K H p ys) ∧ ∀ l, H l = none → Q (.ref l) (upd H l (.lst ys))) (tCons te tNil)) G ds := fun σ H I Q q =>
  h σ H I _ fun v H1 e1 h1 => by
    cases h1 with
    | @lst a xs _ hs hd => exact ⟨a, xs, rfl, .inl hs, fun l hl => q l _ xs (same_there e1 l hl) (e1.trans (same_new hl)) upd_same (dpa_ex (same_new hl) hd)⟩
/-! bools, tests -/
theorem ev_andV {a b : Bool} (h1 : Ev K B ta G (.bool a)) (h2 : a = true → Ev K B tb G (.bool b)) : Ev K B (tAndV ta tb) G (.bool (a && b)) := fun σ H I Q q => h1 σ H I _ fun v H1 e1 g => by
  have g' := g.dp (I.sm.trans e1)
  cases g'
  refine ⟨a, rfl, ?_⟩
  cases a with
  | true => exact h2 rfl σ H1 (I.ex e1) Q fun v H2 e2 g2 => q v H2 (e1.trans e2) g2
  | false => exact q _ H1 e1 (.base (.bl false))
theorem ev_orV {a b : Bool} (h1 : Ev K B ta G (.bool a)) (h2 : a = false → Ev K B tb G (.bool b)) : Ev K B (tOrV ta tb) G (.bool (a || b)) := fun σ H I Q q => h1 σ H I _ fun v H1 e1 g => by
  have g' := g.dp (I.sm.trans e1)
  cases g'
  refine ⟨a, rfl, ?_⟩
  cases a with
  | false => exact h2 rfl σ H1 (I.ex e1) Q fun v H2 e2 g2 => q v H2 (e1.trans e2) g2
  | true => exact q _ H1 e1 (.base (.bl true))
theorem ev_notV {a : Bool} (h1 : Ev K B ta G (.bool a)) : Ev K B (tNotV ta) G (.bool (!a)) := fun σ H I Q q => h1 σ H I _ fun v H1 e1 g => by
  have g' := g.dp (I.sm.trans e1)
  cases g'
  exact ⟨a, rfl, q _ H1 e1 (.base (.bl _))⟩
theorem et_test {b : Bool} (h : Ev K B te G (.bool b)) : EvT K B (tTest te) G b := fun σ H I Q q => h σ H I _ fun v H1 e1 g => by
  have g' := g.dp (I.sm.trans e1)
  cases g'
  exact ⟨b, rfl, q H1 e1⟩
theorem et_B {b : Bool} (h : Ev K B te G (.bool b)) : EvT K B (tB te) G b := fun σ H I Q q => h σ H I _ fun v H1 e1 g => by
  have g' := g.dp (I.sm.trans e1)
  cases g'
  exact ⟨b, rfl, q H1 e1⟩
theorem et_and {a b : Bool} (h1 : EvT K B t G a) (h2 : a = true → EvT K B u G b) : EvT K B (tAnd t u) G (a && b) := fun σ H I Q q => h1 σ H I _ fun H1 e1 => by
  cases a with
  | true => exact h2 rfl σ H1 (I.ex e1) Q fun H2 e2 => q H2 (e1.trans e2)
  | false => exact q H1 e1
theorem et_or {a b : Bool} (h1 : EvT K B t G a) (h2 : a = false → EvT K B u G b) : EvT K B (tOr t u) G (a || b) := fun σ H I Q q => h1 σ H I _ fun H1 e1 => by
  cases a with
  | false => exact h2 rfl σ H1 (I.ex e1) Q fun H2 e2 => q H2 (e1.trans e2)
  | true => exact q H1 e1
theorem et_not {a : Bool} (h1 : EvT K B t G a) : EvT K B (tNot t) G (!a) := fun σ H I Q q => h1 σ H I _ fun H1 e1 => q H1 e1
end
end PF

-- P3
set_option linter.all false
set_option maxRecDepth 100000
namespace PF
open PySem PySem.Spec PyProof.Rows L2
/-! ### statements -/
inductive Rt where
  | im (d : PD)
  | ow (ds : List PD)
section
variable (K : PySem.W.Frag) (B : Hp)
structure RetOk (R : Rt → Prop) (D : Ends) : Prop where
  im : ∀ d v H', R (.im d) → Same B H' → Dq K B H' v d → D.rt v H'
  ow : ∀ ds a xs H', R (.ow ds) → Same B H' → B a = none → H' a = some (.lst xs) → DqAll K B H' xs ds → D.rt (.ref a) H'
def St (t : TS) (G : List Sl) (N : List Sl → Prop) (R : Rt → Prop) : Prop := ∀ σ H D, Env K B H σ G →
  (∀ σ' H' G', N G' → Fr G G' H H' → Env K B H' σ' G' → D.nx σ' H') → RetOk K B R D → t D σ H
end
section
variable {K : PySem.W.Frag} {B : Hp} {G : List Sl} {te ta tb : TE} {tc : TT} {t u : TS} {d e x : PD} {ds es : List PD} {N M : List Sl → Prop} {R : Rt → Prop}
theorem St.mono (h : St K B t G N R) (hN : ∀ G', N G' → M G') : St K B t G M R := fun σ H D I q r => h σ H D I (fun σ' H' G' n => q σ' H' G' (hN G' n)) r
theorem s_seq (h : St K B t G (fun G' => St K B u G' N R) R) : St K B (tSeq t u) G N R := fun σ H D I q r =>
  h σ H { D with nx := u D } I (fun σ' H' G' n f I' => n σ' H' D I' (fun σ2 H2 G2 n2 f2 => q σ2 H2 G2 n2 (f.trans f2)) r) ⟨r.im, r.ow⟩
/-- a statement, then the rest, with a word between -/
theorem s_seqM (h : St K B t G M R) (k : ∀ G', M G' → St K B u G' N R) : St K B (tSeq t u) G N R := s_seq (h.mono k)
theorem s_next (h : N G) : St K B tNext G N R := fun σ H D I q r => q σ H G h .refl I
theorem s_set {i : Nat} (h : Ev K B te G d) (k : N (G.set i (.im d))) : St K B (tAsg te (gName i)) G N R := fun σ H D I q r =>
  h σ H I _ fun v H1 e1 g => q _ H1 _ k (.im e1) ((I.ex e1).set_im i g)
theorem s_setO {i : Nat} (h : EvO K B te G ds) (n : noL.noLs ds = true) (k : ∀ a, ¬ Own G a → N (G.set i (.ow a ds))) : St K B (tAsg te (gName i)) G N R := fun σ H D I q r =>
  h σ H I _ fun a H1 xs hn e1 ha g => by
    have hb : B a = none := same_there I.sm a hn
    have ho : ¬ Own G a := fun z => by
      obtain ⟨xs, e⟩ := I.own_some z
      rw [hn] at e; cases e
    refine q _ H1 _ (k a ho) ⟨fun b o _ hH => e1 b o hH, fun b hb' => ?_, same_there e1⟩ ((I.ex e1).set_ow i hb ha (dqa_of n g) ho)
    rcases own_set_ow hb' with rfl | z
    · exact .inr hn
    · exact .inl z
theorem s_if {b : Bool} (h : EvT K B tc G b) (h1 : b = true → St K B t G N R) (h2 : b = false → St K B u G N R) : St K B (tIfS tc t u) G N R := fun σ H D I q r =>
  h σ H I _ fun H1 e1 => by
    cases b with
    | true => exact h1 rfl σ H1 D (I.ex e1) (fun σ' H' G' n f => q σ' H' G' n ((Fr.same e1).trans f)) r
    | false => exact h2 rfl σ H1 D (I.ex e1) (fun σ' H' G' n f => q σ' H' G' n ((Fr.same e1).trans f)) r
theorem s_ret (h : Ev K B te G d) (k : R (.im d)) : St K B (tRet te) G N R := fun σ H D I q r =>
  h σ H I _ fun v H1 e1 g => r.im d v H1 k (I.sm.trans e1) g
theorem s_retO (h : EvO K B te G ds) (n : noL.noLs ds = true) (k : R (.ow ds)) : St K B (tRet te) G N R := fun σ H D I q r =>
  h σ H I _ fun a H1 xs hn e1 ha g => r.ow ds a xs H1 k (I.sm.trans e1) (same_there I.sm a hn) ha (dqa_of n g)
theorem s_retV {i : Nat} {a : Addr} (hs : G[i]? = some (.ow a ds)) (k : R (.ow ds)) : St K B (tRet (tVar i)) G N R := fun σ H D I q r => by
  obtain ⟨h1, h2, xs, h3, h4⟩ := I.own_at hs
  exact ⟨_, h1, r.ow ds a xs H k I.sm h2 h3 h4⟩
theorem s_drop (h : EvP K B te G d) (k : N G) : St K B (tDrop te) G N R := fun σ H D I q r =>
  h σ H I _ fun v H1 e1 g => q σ H1 G k (.same e1) (I.ex e1)
theorem fr_upd {H H1 : Hp} {i : Nat} {a : Addr} {ys : List V} (hs : G[i]? = some (.ow a ds)) (e1 : Same H H1) : Fr G (G.set i (.ow a es)) H (upd H1 a (.lst ys)) := by
  refine ⟨fun b o hb h => ?_, fun b hb => ?_, fun b hb => ?_⟩
  · rw [upd_ne (by rintro rfl; exact hb ⟨i, ds, hs⟩)]
    exact e1 b o h
  · rcases own_set_ow hb with rfl | z
    · exact .inl ⟨i, ds, hs⟩
    · exact .inl z
  · by_cases c : b = a
    · subst c; rw [upd_same] at hb; cases hb
    · rw [upd_ne c] at hb; exact same_there e1 b hb
/-- found.append(e) -/
theorem s_app {i : Nat} {a : Addr} (hs : G[i]? = some (.ow a ds)) (h : Ev K B te G d) (hz : ds.length < sizeLine) (k : N (G.set i (.ow a (ds ++ [d])))) :
    St K B (tDrop (tBM K "list" rAppend (tVar i) (tCons te tNil))) G N R := fun σ H D I q r => by
  obtain ⟨h1, h2, xs, h3, h4⟩ := I.own_at hs
  refine ⟨_, h1, .inl ⟨rfl, xs, .of h3⟩, h σ H I _ fun v H1 e1 g => ⟨a, xs, v, rfl, rfl, e1 _ _ h3, by rw [h4.1]; exact hz, ?_⟩⟩
  exact q σ _ _ k (fr_upd hs e1) ((I.ex e1).upd hs ((h4.ex e1).snoc g))
def rInsert : V → List V → Hp → VK → Prop := fun x vs H Q => ∃ (l : Addr) (xs : List V) (i : Int) (y : V), x = .ref l ∧ vs = [.int i, y] ∧ H l = some (.lst xs) ∧ xs.length < sizeLine ∧ 0 ≤ i ∧ i < 2 ^ 63 ∧ Q .non (upd H l (.lst (xs.take i.toNat ++ [y] ++ xs.drop i.toNat)))
/-- found.insert(at, e) -/
theorem s_ins {i : Nat} {a : Addr} {n : Int} (hs : G[i]? = some (.ow a ds)) (h' : EvP K B tb G (.int n)) (h : Ev K B te G d) (hz : ds.length < sizeLine) (h0 : 0 ≤ n) (h1 : n < 2 ^ 63) (k : N (G.set i (.ow a (ds.take n.toNat ++ [d] ++ ds.drop n.toNat)))) :
    St K B (tDrop (tBM K "list" rInsert (tVar i) (tCons tb (tCons te tNil)))) G N R := fun σ H D I q r => by
  obtain ⟨g1, g2, xs, g3, g4⟩ := I.own_at hs
  refine ⟨_, g1, .inl ⟨rfl, xs, .of g3⟩, h' σ H I _ fun v0 H0 e0 g0 => h σ H0 (I.ex e0) _ fun v H1 e1 g => ?_⟩
  cases g0
  have e01 := e0.trans e1
  refine ⟨a, xs, n, v, rfl, rfl, e01 _ _ g3, by rw [g4.1]; exact hz, h0, h1, ?_⟩
  exact q σ _ _ k (fr_upd hs e01) ((I.ex e01).upd hs ((((g4.ex e01).take _).app (.cons g .nil)).app ((g4.ex e01).drop _)))
/-- xs[i] = e -/
theorem s_setI {i : Nat} {a : Addr} {n : Int} {j : Nat} (hs : G[i]? = some (.ow a ds)) (h : Ev K B te G d) (h' : EvP K B tb G (.int n)) (hj : ixN ds.length n = some j) (k : N (G.set i (.ow a (ds.set j d)))) :
    St K B (tAsg te (gSub (tVar i) tb rSetL)) G N R := fun σ H D I q r => by
  obtain ⟨g1, g2, xs, g3, g4⟩ := I.own_at hs
  refine h σ H I _ fun v H1 e1 g => ⟨_, g1, h' σ H1 (I.ex e1) _ fun v2 H2 e2 g5 => ?_⟩
  cases g5
  have e12 := e1.trans e2
  refine ⟨a, xs, n, j, rfl, rfl, e12 _ _ g3, by rw [g4.1]; exact hj, ?_⟩
  refine q σ _ _ k (fr_upd hs e12) ((I.ex e12).upd hs ⟨by simp [g4.1], fun m v' d' x1 x2 => ?_⟩)
  rcases set_get x1 with ⟨c1, rfl⟩ | ⟨c1, y1⟩
  · rcases set_get x2 with ⟨_, rfl⟩ | ⟨c2, _⟩
    · exact g.ex e2
    · exact absurd c1 c2
  · rcases set_get x2 with ⟨c2, _⟩ | ⟨_, y2⟩
    · exact absurd c2 c1
    · exact (g4.ex e12).2 m v' d' y1 y2
/-! loops -/
theorem s_while (W : Nat → List Sl → Prop) (m0 : Nat) (h0 : W m0 G) (hs : ∀ m G, W m G → ∃ b, EvT K B tc G b ∧ (b = true → St K B t G (fun G' => ∃ m', m' < m ∧ W m' G') R) ∧ (b = false → N G)) : St K B (tWhile tc t) G N R := fun σ H D I q r => by
  refine ⟨fun m σ' H' => ∃ G', W m G' ∧ Fr G G' H H' ∧ Env K B H' σ' G', ⟨m0, G, h0, .refl, I⟩, ?_⟩
  rintro m σ1 H1 ⟨G1, w, f1, I1⟩
  obtain ⟨b, hb, ht, hf⟩ := hs m G1 w
  refine hb σ1 H1 I1 _ fun H2 e2 => ?_
  cases b with
  | true =>
    rw [if_pos rfl]
    refine ⟨fun σ' H' => ∃ m', m' < m ∧ ∃ G', W m' G' ∧ Fr G G' H H' ∧ Env K B H' σ' G', fun σ' H' ⟨m', l, z⟩ => ⟨m', l, z⟩, ?_⟩
    refine ht rfl σ1 H2 _ (I1.ex e2) (fun σ' H' G' ⟨m', l, w'⟩ f I' => ⟨m', l, G', w', (f1.trans (.same e2)).trans f, I'⟩) ⟨r.im, r.ow⟩
  | false =>
    rw [if_neg Bool.false_ne_true]
    exact q σ1 H2 G1 (hf rfl) (f1.trans (.same e2)) (I1.ex e2)
theorem wipe_set {σ : L2.St} {j : Nat} {x : Option V} : ∀ {vs : List Nat}, j ∈ vs → wipe (σ.set j x) vs = wipe σ vs := by
  have key : ∀ (vs : List Nat) (σ : L2.St) (k : Nat) (y : Option V), k ∉ vs → wipe (σ.set k y) vs = (wipe σ vs).set k y := by
    intro vs
    induction vs with
    | nil => intros; rfl
    | cons v vs ih =>
      intro σ k y hk
      have hk' : k ≠ v ∧ k ∉ vs := by simpa using hk
      unfold wipe
      rw [ih σ k y hk'.2, List.set_comm _ _ hk'.1]
  intro vs
  induction vs with
  | nil => intro h; cases h
  | cons v vs ih =>
    intro h
    by_cases c : j ∈ vs
    · unfold wipe; rw [ih c]
    · have e : j = v := by
        rcases List.mem_cons.mp h with e | e
        · exact e
        · exact absurd e c
      subst e
      unfold wipe
      rw [key vs σ j x c, List.set_set]

end
end PF

-- P4
set_option linter.all false
set_option maxRecDepth 100000
namespace PF
open PySem PySem.Spec PyProof.Rows L2
/-! ### targets, loops over things, comprehensions -/
/-- a target takes data -/
structure Tg (K : PySem.W.Frag) (B : Hp) (g : TG) (vs : List Nat) (d : PD) (G G2 : List Sl) : Prop where
  own : ∀ a, Own G2 a → Own G a
  to : ∀ v σ H, Env K B H σ G → Dq K B H v d → ∀ Q : L2.St → Hp → Prop, (∀ σ2, Env K B H σ2 G2 → wipe σ2 vs = wipe σ vs → Q σ2 H) → g v σ H Q
section
variable {K : PySem.W.Frag} {B : Hp} {G : List Sl} {te ta tb tl : TE} {tc : TT} {t u : TS} {d e x : PD} {ds es : List PD} {N M : List Sl → Prop} {R : Rt → Prop} {g : TG} {vs : List Nat}
theorem tg_name {j : Nat} (hj : j ∈ vs) : Tg K B (gName j) vs d G (G.set j (.im d)) := ⟨fun a h => own_set_im h, fun v σ H I h Q q => q _ (I.set_im j h) (wipe_set hj)⟩
theorem tg_pair {i j : Nat} {d1 d2 : PD} (hi : i ∈ vs) (hj : j ∈ vs) : Tg K B (gTup K 2 (gCons (gName i) (gCons (gName j) gNil))) vs (.tuple [d1, d2]) G ((G.set i (.im d1)).set j (.im d2)) := ⟨fun a h => own_set_im (own_set_im h), fun v σ H I h Q q => by
  obtain ⟨a, xs, rfl, h1, h2, h3⟩ := h.tup_inv I.sm
  match xs, h2, h3, h1 with
  | [x1, x2], _, h3, h1 =>
    refine ⟨a, [x1, x2], rfl, h1, rfl, x1, [x2], rfl, x2, [], rfl, rfl, ?_⟩
    exact q _ ((I.set_im i (h3 0 _ _ rfl rfl)).set_im j (h3 1 _ _ rfl rfl)) (by rw [wipe_set hj, wipe_set hi])⟩
theorem tg_trip {i j k : Nat} {d1 d2 d3 : PD} (hi : i ∈ vs) (hj : j ∈ vs) (hk : k ∈ vs) : Tg K B (gTup K 3 (gCons (gName i) (gCons (gName j) (gCons (gName k) gNil)))) vs (.tuple [d1, d2, d3]) G (((G.set i (.im d1)).set j (.im d2)).set k (.im d3)) := ⟨fun a h => own_set_im (own_set_im (own_set_im h)), fun v σ H I h Q q => by
  obtain ⟨a, xs, rfl, h1, h2, h3⟩ := h.tup_inv I.sm
  match xs, h2, h3, h1 with
  | [x1, x2, x3], _, h3, h1 =>
    refine ⟨a, [x1, x2, x3], rfl, h1, rfl, x1, [x2, x3], rfl, x2, [x3], rfl, x3, [], rfl, rfl, ?_⟩
    exact q _ (((I.set_im i (h3 0 _ _ rfl rfl)).set_im j (h3 1 _ _ rfl rfl)).set_im k (h3 2 _ _ rfl rfl)) (by rw [wipe_set hk, wipe_set hj, wipe_set hi])⟩
theorem Fr.sqt {G' : List Sl} {H H' : Hp} {σ : L2.St} (I : Env K B H σ G) (f : Fr G G' H H') {a : Addr} {xs : List V} (h : SqT K H a xs) : SqT K H' a xs := by
  have key : ∀ o, H a = some o → (∀ ys, o ≠ .lst ys) → H' a = some o := fun o ho hn => f.keep a o (fun z => by
    obtain ⟨ys, e⟩ := I.own_some z
    rw [ho] at e
    exact hn ys (Option.some.inj e)) ho
  rcases h with (h | ⟨o, h⟩) | h
  · exact .inl (.inl (key _ h fun ys z => by cases z))
  · exact .inl (.inr ⟨o, key _ h fun ys z => by cases z⟩)
  · exact .inr h
theorem Fr.tg {G2 : List Sl} {H : Hp} (h : ∀ a, Own G2 a → Own G a) : Fr G G2 H H := ⟨fun _ _ _ h => h, fun b hb => .inl (h b hb), fun _ h => h⟩
/-- the core of a loop over a list -/
theorem for_gen {σ : L2.St} {H H1 : Hp} {D : Ends} {a : Addr} (I1 : Env K B H1 σ G) (f1 : Fr G G H H1) (q : ∀ σ' H' G', N G' → Fr G G' H H' → Env K B H' σ' G' → D.nx σ' H') (r : RetOk K B R D)
    (W : Nat → List Sl → Prop) (h0 : W 0 G) (stay : ∀ i σ' H' G', W i G' → Fr G G' H1 H' → Env K B H' σ' G' → ∃ xs, SqL K H' a xs ∧ DqAll K B H' xs ds)
    (hs : ∀ i d G', ds[i]? = some d → W i G' → ∃ vs G2, Tg K B g vs d G' G2 ∧ St K B t G2 (W (i + 1)) R) (hd : ∀ G', W ds.length G' → N G') :
    ∃ W : Nat → Nat → L2.St → Hp → Prop, (∃ m, W 0 m σ H1) ∧ ∀ i m σ H, W i m σ H →
      ((Itl K a).stop i H ∧ D.nx σ H) ∨ ((Itl K a).go i H ∧ ∃ N : L2.St → Hp → Prop, (∀ σ' H', N σ' H' → ∃ m', m' < m ∧ W (i + 1) m' σ' H') ∧ ∀ x H', (Itl K a).yld i H x H' → g x σ H' fun σ2 H2 => t { D with nx := N, ct := N, bk := D.nx } σ2 H2) := by
  refine ⟨fun i m σ' H' => m = ds.length - i ∧ i ≤ ds.length ∧ ∃ G', W i G' ∧ Fr G G' H1 H' ∧ Env K B H' σ' G', ⟨ds.length, by simp, Nat.zero_le _, G, h0, .refl, I1⟩, ?_⟩
  rintro i m σ2 H2 ⟨rfl, hi, G2, w, f, I2⟩
  obtain ⟨xs, hx, hq⟩ := stay i σ2 H2 G2 w f I2
  by_cases hlt : i < ds.length
  · have hxl : i < xs.length := by rw [hq.1]; exact hlt
    refine .inr ⟨⟨xs, xs[i], hx, List.getElem?_eq_getElem hxl⟩, fun σ' H' => i + 1 ≤ ds.length ∧ ∃ G', W (i + 1) G' ∧ Fr G G' H1 H' ∧ Env K B H' σ' G', fun σ' H' ⟨l, z⟩ => ⟨ds.length - (i + 1), by omega, rfl, l, z⟩, fun x H' y => ?_⟩
    obtain ⟨rfl, y⟩ := y
    have hxe := y xs hx
    have hde : ds[i]? = some ds[i] := List.getElem?_eq_getElem hlt
    obtain ⟨vs, G3, T, S⟩ := hs i ds[i] G2 hde w
    refine T.to x σ2 _ I2 (hq.2 i x _ hxe hde) _ fun σ3 I3 _ => ?_
    refine S σ3 _ _ I3 (fun σ' H' G' w' f' I' => ⟨by omega, G', w', ?_, I'⟩) ⟨r.im, r.ow⟩
    exact (f.trans (.tg T.own)).trans f'
  · have e : i = ds.length := by omega
    subst e
    exact .inl ⟨⟨xs, hx, by rw [hq.1]; exact Nat.le_refl _⟩, q σ2 H2 G2 (hd G2 w) (f1.trans f) I2⟩
/-- for x in a list of the base -/
theorem s_forB (hl : Ev K B tl G (.list ds)) (W : Nat → List Sl → Prop) (h0 : W 0 G) (hs : ∀ i d G', ds[i]? = some d → W i G' → ∃ vs G2, Tg K B g vs d G' G2 ∧ St K B t G2 (W (i + 1)) R) (hd : ∀ G', W ds.length G' → N G') :
    St K B (tFor (iList K tl) g t) G N R := fun σ H D I q r => hl σ H I _ fun v H1 e1 h1 => by
  have h2 := h1.lst_inv
  cases h2 with
  | @lst a xs _ hx hd' =>
    obtain ⟨l, k⟩ := dpa_iff.mp hd'
    refine ⟨a, rfl, ⟨xs, sql_ex (I.sm.trans e1) hx⟩, ?_⟩
    exact for_gen (I.ex e1) (.same e1) q r W h0 (fun i σ' H' G' _ _ I' => ⟨xs, sql_ex I'.sm hx, l, fun n v e x1 x2 => .base (k n v e x1 x2)⟩) hs hd
/-- .. in an own list, that stays -/
theorem s_forV {j : Nat} {a : Addr} (W : Nat → List Sl → Prop) (h0 : W 0 G) (hv : ∀ i G', W i G' → G'[j]? = some (.ow a ds)) (hs : ∀ i d G', ds[i]? = some d → W i G' → ∃ vs G2, Tg K B g vs d G' G2 ∧ St K B t G2 (W (i + 1)) R) (hd : ∀ G', W ds.length G' → N G') :
    St K B (tFor (iList K (tVar j)) g t) G N R := fun σ H D I q r => by
  obtain ⟨h1, h2, xs, h3, h4⟩ := I.own_at (hv 0 G h0)
  refine ⟨_, h1, a, rfl, ⟨xs, .of h3⟩, ?_⟩
  exact for_gen I .refl q r W h0 (fun i σ' H' G' w _ I' => by
    obtain ⟨_, _, ys, g3, g4⟩ := I'.own_at (hv i G' w)
    exact ⟨ys, .of g3, g4⟩) hs hd
/-- .. in a new list -/
theorem s_forO (hl : EvO K B tl G ds) (n : noL.noLs ds = true) (W : Nat → List Sl → Prop) (h0 : W 0 G) (hs : ∀ i d G', ds[i]? = some d → W i G' → ∃ vs G2, Tg K B g vs d G' G2 ∧ St K B t G2 (W (i + 1)) R) (hd : ∀ G', W ds.length G' → N G') :
    St K B (tFor (iList K tl) g t) G N R := fun σ H D I q r => hl σ H I _ fun a H1 xs hn e1 ha h1 => by
  refine ⟨a, rfl, ⟨xs, .of ha⟩, ?_⟩
  refine for_gen (I.ex e1) (.same e1) q r W h0 (fun i σ' H' G' _ f I' => ?_) hs hd
  refine ⟨xs, .of (f.keep a _ (fun z => ?_) ha), (dqa_of n h1).mono fun b ys => f.sqt (I.ex e1)⟩
  obtain ⟨ys, e⟩ := I.own_some z
  rw [hn] at e; cases e
/-- for x in (a, b, ..) -/
theorem s_forT (hl : Ev K B tl G (.tuple ds)) (W : Nat → List Sl → Prop) (h0 : W 0 G) (hs : ∀ i d G', ds[i]? = some d → W i G' → ∃ vs G2, Tg K B g vs d G' G2 ∧ St K B t G2 (W (i + 1)) R) (hd : ∀ G', W ds.length G' → N G') :
    St K B (tFor (iTup K tl) g t) G N R := fun σ H D I q r => hl σ H I _ fun v H1 e1 h1 => by
  obtain ⟨a, xs, rfl, hx, hq⟩ := h1.tup_inv (I.sm.trans e1)
  refine ⟨a, rfl, ⟨xs, hx⟩, ?_⟩
  refine ⟨fun i m σ' H' => m = ds.length - i ∧ i ≤ ds.length ∧ ∃ G', W i G' ∧ Fr G G' H1 H' ∧ Env K B H' σ' G', ⟨ds.length, by simp, Nat.zero_le _, G, h0, .refl, I.ex e1⟩, ?_⟩
  rintro i m σ2 H2 ⟨rfl, hi, G2, w, f, I2⟩
  have hx2 := f.sqt (I.ex e1) hx
  have hq2 := hq.mono fun b ys => f.sqt (I.ex e1) (a := b) (xs := ys)
  by_cases hlt : i < ds.length
  · have hxl : i < xs.length := by rw [hq.1]; exact hlt
    refine .inr ⟨⟨xs, xs[i], hx2, List.getElem?_eq_getElem hxl⟩, fun σ' H' => i + 1 ≤ ds.length ∧ ∃ G', W (i + 1) G' ∧ Fr G G' H1 H' ∧ Env K B H' σ' G', fun σ' H' ⟨l, z⟩ => ⟨ds.length - (i + 1), by omega, rfl, l, z⟩, fun x H' y => ?_⟩
    obtain ⟨rfl, y⟩ := y
    have hxe := y xs hx2
    have hde : ds[i]? = some ds[i] := List.getElem?_eq_getElem hlt
    obtain ⟨vs, G3, T, S⟩ := hs i ds[i] G2 hde w
    refine T.to x σ2 _ I2 (hq2.2 i x _ hxe hde) _ fun σ3 I3 _ => ?_
    refine S σ3 _ _ I3 (fun σ' H' G' w' f' I' => ⟨by omega, G', w', ?_, I'⟩) ⟨r.im, r.ow⟩
    exact (f.trans (.tg T.own)).trans f'
  · have e : i = ds.length := by omega
    subst e
    exact .inl ⟨⟨xs, hx2, by rw [hq.1]; exact Nat.le_refl _⟩, q σ2 H2 G2 (hd G2 w) ((Fr.same e1).trans f) I2⟩
theorem for_rng {σ : L2.St} {H H1 : Hp} {D : Ends} {lo : Int} {n : Nat} {j : Nat} (I1 : Env K B H1 σ G) (f1 : Fr G G H H1) (q : ∀ σ' H' G', N G' → Fr G G' H H' → Env K B H' σ' G' → D.nx σ' H') (r : RetOk K B R D)
    (W : Nat → List Sl → Prop) (h0 : W 0 G) (hs : ∀ i G', i < n → W i G' → St K B t (G'.set j (.im (.int (lo + i)))) (W (i + 1)) R) (hd : ∀ G', W n G' → N G') :
    ∃ W : Nat → Nat → L2.St → Hp → Prop, (∃ m, W 0 m σ H1) ∧ ∀ i m σ H, W i m σ H →
      ((Itr lo n).stop i H ∧ D.nx σ H) ∨ ((Itr lo n).go i H ∧ ∃ N : L2.St → Hp → Prop, (∀ σ' H', N σ' H' → ∃ m', m' < m ∧ W (i + 1) m' σ' H') ∧ ∀ x H', (Itr lo n).yld i H x H' → gName j x σ H' fun σ2 H2 => t { D with nx := N, ct := N, bk := D.nx } σ2 H2) := by
  refine for_range (lo := lo) (n := n) (fun i σ' H' => ∃ G', W i G' ∧ Fr G G' H1 H' ∧ Env K B H' σ' G') ⟨G, h0, .refl, I1⟩ ?_ ?_
  · rintro i σ2 H2 hi ⟨G2, w, f, I2⟩
    exact hs i G2 hi w _ H2 _ (I2.set_im j (.base (.int _))) (fun σ' H' G' w' f' I' => ⟨G', w', (f.trans (.im (Same.refl _))).trans f', I'⟩) ⟨r.im, r.ow⟩
  · rintro σ2 H2 ⟨G2, w, f, I2⟩
    exact q σ2 H2 G2 (hd G2 w) (f1.trans f) I2
/-- for i in range(n) -/
theorem s_forR1 {ta : TA} {j : Nat} {n : Nat} (h : EvAP K B ta G [.int n]) (hn : (n : Int) < 2 ^ 62) (W : Nat → List Sl → Prop) (h0 : W 0 G) (hs : ∀ (i : Nat) G', i < n → W i G' → St K B t (G'.set j (.im (.int (i : Int)))) (W (i + 1)) R) (hd : ∀ G', W n G' → N G') :
    St K B (tFor (iRng1 ta) (gName j) t) G N R := fun σ H D I q r => h σ H I _ fun vs H1 e1 h1 => by
  cases h1 with
  | cons h1 h2 =>
    cases h1; cases h2
    refine ⟨n, rfl, by omega, hn, ?_⟩
    exact for_rng (I.ex e1) (.same e1) q r W h0 (fun i G' hi w => by rw [Int.zero_add]; exact hs i G' (by omega) w) (fun G' w => hd G' (by simpa using w))
/-- for i in range(lo, hi) -/
theorem s_forR2 {ta : TA} {j : Nat} {lo : Int} {n : Nat} (h : EvAP K B ta G [.int lo, .int (lo + n)]) (hn : -(2 ^ 62) ≤ lo ∧ lo < 2 ^ 62 ∧ lo + (n : Int) < 2 ^ 62) (W : Nat → List Sl → Prop) (h0 : W 0 G) (hs : ∀ (i : Nat) G', i < n → W i G' → St K B t (G'.set j (.im (.int (lo + i)))) (W (i + 1)) R) (hd : ∀ G', W n G' → N G') :
    St K B (tFor (iRng2 ta) (gName j) t) G N R := fun σ H D I q r => h σ H I _ fun vs H1 e1 h1 => by
  cases h1 with
  | cons h1 h2 =>
    cases h2 with
    | cons h2 h3 =>
      cases h1; cases h2; cases h3
      refine ⟨lo, lo + n, rfl, ⟨hn.1, hn.2.1, by omega, hn.2.2⟩, ?_⟩
      have e : (lo + (n : Int) - lo).toNat = n := by omega
      rw [e]
      exact for_rng (I.ex e1) (.same e1) q r W h0 hs hd
/-- for a, b in zip(xs, ys), xs an own list, ys a new one -/
theorem s_forZ {j : Nat} {t2 : TE} {a : Addr} (h2 : EvO K B t2 G es) (n2 : noL.noLs es = true) (W : Nat → List Sl → Prop) (h0 : W 0 G) (hv : ∀ i G', W i G' → G'[j]? = some (.ow a ds)) (n1 : noL.noLs ds = true)
    (hs : ∀ i d e G', ds[i]? = some d → es[i]? = some e → W i G' → ∃ vs G2, Tg K B g vs (.tuple [d, e]) G' G2 ∧ St K B t G2 (W (i + 1)) R) (hd : ∀ G', W (min ds.length es.length) G' → N G') :
    St K B (tFor (iZip K (tCons (tVar j) (tCons t2 tNil))) g t) G N R := fun σ H D I q r => by
  obtain ⟨g1, g2, xs, g3, g4⟩ := I.own_at (hv 0 G h0)
  refine ⟨_, g1, h2 σ H I _ fun b H1 ys hn e1 hb h1 => ⟨a, b, xs, ys, rfl, .of (e1 _ _ g3), .of hb, ?_⟩⟩
  have I1 := I.ex e1
  have hnb : ¬ Own G b := fun z => by
    obtain ⟨ys, e⟩ := I.own_some z
    rw [hn] at e; cases e
  refine ⟨fun i m σ' H' => m = min ds.length es.length - i ∧ i ≤ min ds.length es.length ∧ ∃ G', W i G' ∧ Fr G G' H1 H' ∧ Env K B H' σ' G', ⟨_, rfl, Nat.zero_le _, G, h0, .refl, I1⟩, ?_⟩
  rintro i m σ2 H2 ⟨rfl, hi, G2, w, f, I2⟩
  obtain ⟨_, _, zs, k3, k4⟩ := I2.own_at (hv i G2 w)
  have hb2 : H2 b = some (.lst ys) := f.keep b _ hnb hb
  have hq2 : DqAll K B H2 ys es := (dqa_of n2 h1).mono fun c us => f.sqt I1
  by_cases hlt : i < min ds.length es.length
  · have hl1 : i < ds.length := by omega
    have hl2 : i < es.length := by omega
    have hz : i < zs.length := by rw [k4.1]; exact hl1
    have hy : i < ys.length := by rw [hq2.1]; exact hl2
    refine .inr ⟨⟨zs, ys, zs[i], ys[i], .of k3, .of hb2, List.getElem?_eq_getElem hz, List.getElem?_eq_getElem hy⟩, fun σ' H' => i + 1 ≤ min ds.length es.length ∧ ∃ G', W (i + 1) G' ∧ Fr G G' H1 H' ∧ Env K B H' σ' G', fun σ' H' ⟨l, z⟩ => ⟨_, by omega, rfl, l, z⟩, fun x H' y => ?_⟩
    obtain ⟨T, x1, x2, rfl, hT, rfl, y1, y2⟩ := y
    have q1 := y1 zs (.of k3)
    have q2 := y2 ys (.of hb2)
    have d1 : ds[i]? = some ds[i] := List.getElem?_eq_getElem hl1
    have d2 : es[i]? = some es[i] := List.getElem?_eq_getElem hl2
    obtain ⟨vs, G3, Tt, S⟩ := hs i _ _ G2 d1 d2 w
    have sT := same_new (o := .tup [x1, x2]) hT
    have dT : Dq K B (upd H2 T (.tup [x1, x2])) (.ref T) (.tuple [ds[i], es[i]]) := .tup (.of upd_same) (.cons ((k4.2 i x1 _ q1 d1).ex sT) (.cons ((hq2.2 i x2 _ q2 d2).ex sT) .nil))
    refine Tt.to _ σ2 _ (I2.ex sT) dT _ fun σ3 I3 _ => ?_
    refine S σ3 _ _ I3 (fun σ' H' G' w' f' I' => ⟨by omega, G', w', ?_, I'⟩) ⟨r.im, r.ow⟩
    exact ((f.trans (.same sT)).trans (.tg Tt.own)).trans f'
  · have e : i = min ds.length es.length := by omega
    subst e
    refine .inl ⟨⟨zs, ys, .of k3, .of hb2, ?_⟩, q σ2 H2 G2 (hd G2 w) ((Fr.same e1).trans f) I2⟩
    rw [k4.1, hq2.1]
    omega
theorem s_par {i j : Nat} {ta : TA} (h : EvA K B ta G [d, e]) (k : N ((G.set i (.im d)).set j (.im e))) : St K B (tPar i j ta) G N R := fun σ H D I q r =>
  h σ H I _ fun vs H1 e1 h1 => by
    match vs, h1 with
    | [v, w], h1 => exact ⟨v, w, rfl, q _ H1 _ k ((Fr.im e1).trans (.im (Same.refl _))) (((I.ex e1).set_im i (h1.2 0 _ _ rfl rfl)).set_im j (h1.2 1 _ _ rfl rfl))⟩
/-! comprehensions -/
def wipeS (G : List Sl) : List Nat → List Sl
  | [] => G
  | v :: vs => (wipeS G vs).set v .no
theorem Env.wipe {σ : L2.St} {H : Hp} (I : Env K B H σ G) : ∀ vs, Env K B H (wipe σ vs) (wipeS G vs)
  | [] => I
  | v :: vs => (Env.wipe I vs).set_no v none
theorem wipe_wipe (σ : L2.St) : ∀ vs, wipe (wipe σ vs) vs = wipe σ vs := by
  have key : ∀ (us : List Nat) (τ : L2.St), (∀ v ∈ us, ∀ h : v < τ.length, τ[v] = none) → wipe τ us = τ := by
    intro us
    induction us with
    | nil => intros; rfl
    | cons v us ih =>
      intro τ h
      unfold L2.wipe
      rw [ih τ fun w hw => h w (List.mem_cons_of_mem _ hw)]
      by_cases c : v < τ.length
      · have := h v List.mem_cons_self c
        conv => rhs; rw [← List.set_getElem_self c]
        rw [this]
      · rw [List.set_eq_of_length_le (by omega)]
  intro vs
  refine key vs _ ?_
  have none_at : ∀ (us : List Nat) (v : Nat), v ∈ us → ∀ h : v < (wipe σ us).length, (wipe σ us)[v] = none := by
    intro us
    induction us with
    | nil => intro v hv; cases hv
    | cons w us ih =>
      intro v hv h
      have h' : v < (wipe σ us).length := by
        have := h
        unfold L2.wipe at this
        simpa using this
      show ((wipe σ us).set w none)[v]'(by simpa using h') = none
      rw [List.getElem_set]
      split
      · rfl
      · rename_i c
        rcases List.mem_cons.mp hv with e | e
        · exact absurd e.symm c
        · exact ih v e h'
  exact none_at vs
theorem eo_lc (hl : EvP K B tl G (.list ds)) (hz : ds.length < sizeLine) (hlen : es.length = ds.length)
    (body : ∀ B' (k : Nat) d e, ds[k]? = some d → es[k]? = some e → ∃ G2, Tg K B' g vs d (wipeS (frz G) vs) G2 ∧ Ev K B' te G2 e) : EvO K B (tLc (iList K tl) g tYes te vs) G es := fun σ H I Q q =>
  hl σ H I _ fun v H1 e1 h1 => by
    cases h1 with
    | @lst a xs _ hx hd =>
      obtain ⟨l, kk⟩ := dpa_iff.mp hd
      refine ⟨a, rfl, ⟨xs, hx⟩, fun D hD => ?_⟩
      have IF := (I.ex e1).frz.wipe vs
      refine ⟨fun i m H' => m = ds.length - i ∧ i ≤ ds.length ∧ Same H1 H' ∧ ∃ acc, H' D = some (.lst acc) ∧ DqAll K H1 H' acc (es.take i), ⟨_, rfl, Nat.zero_le _, same_new hD, [], upd_same, by rw [List.take_zero]; exact .nil⟩, ?_⟩
      rintro i m H2 ⟨rfl, hi, s2, acc, hacc, hq⟩
      by_cases hlt : i < ds.length
      · have hxl : i < xs.length := by rw [l]; exact hlt
        have hel : i < es.length := by rw [hlen]; exact hlt
        have hde : ds[i]? = some ds[i] := List.getElem?_eq_getElem hlt
        have hee : es[i]? = some es[i] := List.getElem?_eq_getElem hel
        refine .inr ⟨⟨xs, xs[i], sql_ex s2 hx, List.getElem?_eq_getElem hxl⟩, fun H' => i + 1 ≤ ds.length ∧ Same H1 H' ∧ ∃ acc, H' D = some (.lst acc) ∧ DqAll K H1 H' acc (es.take (i + 1)), fun H' ⟨z1, z2⟩ => ⟨_, by omega, rfl, z1, z2⟩, fun x H' y => ?_⟩
        obtain ⟨rfl, y⟩ := y
        have hxe := y xs (sql_ex s2 hx)
        obtain ⟨G2, T, E⟩ := body H1 i _ _ hde hee
        refine T.to x _ H' (IF.ex s2) (.base (kk i x _ hxe hde)) _ fun σ3 I3 w3 => ⟨w3.trans (wipe_wipe σ vs), ?_⟩
        show te σ3 _ _
        refine E σ3 H' I3 _ fun z H4 e4 hz4 => ⟨acc, e4 _ _ hacc, ?_, by omega, ?_, acc ++ [z], upd_same, ?_⟩
        · rw [hq.1, List.length_take]; omega
        · intro b o hb
          rw [upd_ne (by rintro rfl; rw [hD] at hb; cases hb)]
          exact e4 b o (s2 b o hb)
        · have ts := upd_sqt (K := K) (o := .lst (acc ++ [z])) (e4 _ _ hacc)
          rw [List.take_add_one, hee]
          exact ((hq.ex e4).mono ts).snoc (hz4.mono ts)
      · have e : i = ds.length := by omega
        subst e
        refine .inl ⟨⟨xs, sql_ex s2 hx, by rw [l]; exact Nat.le_refl _⟩, q D H2 acc (same_there e1 D hD) (e1.trans s2) hacc ?_⟩
        rw [← hlen, List.take_length] at hq
        exact hq.dp s2
theorem eo_lcZ {ta : TA} {ds' : List PD} (hl : EvAP K B ta G [.list ds, .list ds']) (hz : ds.length < sizeLine) (hlen : es.length = min ds.length ds'.length)
    (body : ∀ B' (k : Nat) d d' e, ds[k]? = some d → ds'[k]? = some d' → es[k]? = some e → ∃ G2, Tg K B' g vs (.tuple [d, d']) (wipeS (frz G) vs) G2 ∧ Ev K B' te G2 e) : EvO K B (tLc (iZip K ta) g tYes te vs) G es := fun σ H I Q q =>
  hl σ H I _ fun us H1 e1 h1 => by
    cases h1 with
    | cons h1 h2 =>
      cases h2 with
      | cons h2 h3 =>
        cases h3
        cases h1 with
        | @lst a xs _ hx hd =>
          cases h2 with
          | @lst b ys _ hy hd2 =>
            obtain ⟨l, kk⟩ := dpa_iff.mp hd
            obtain ⟨l', kk'⟩ := dpa_iff.mp hd2
            refine ⟨a, b, xs, ys, rfl, hx, hy, fun D hD => ?_⟩
            have IF := (I.ex e1).frz.wipe vs
            refine ⟨fun i m H' => m = es.length - i ∧ i ≤ es.length ∧ Same H1 H' ∧ ∃ acc, H' D = some (.lst acc) ∧ DqAll K H1 H' acc (es.take i), ⟨_, rfl, Nat.zero_le _, same_new hD, [], upd_same, by rw [List.take_zero]; exact .nil⟩, ?_⟩
            rintro i m H2 ⟨rfl, hi, s2, acc, hacc, hq⟩
            by_cases hlt : i < es.length
            · have hl1 : i < ds.length := by omega
              have hl2 : i < ds'.length := by omega
              have hxl : i < xs.length := by omega
              have hyl : i < ys.length := by omega
              have hde : ds[i]? = some ds[i] := List.getElem?_eq_getElem hl1
              have hde' : ds'[i]? = some ds'[i] := List.getElem?_eq_getElem hl2
              have hee : es[i]? = some es[i] := List.getElem?_eq_getElem hlt
              refine .inr ⟨⟨xs, ys, xs[i], ys[i], sql_ex s2 hx, sql_ex s2 hy, List.getElem?_eq_getElem hxl, List.getElem?_eq_getElem hyl⟩, fun H' => i + 1 ≤ es.length ∧ Same H1 H' ∧ ∃ acc, H' D = some (.lst acc) ∧ DqAll K H1 H' acc (es.take (i + 1)), fun H' ⟨z1, z2⟩ => ⟨_, by omega, rfl, z1, z2⟩, fun x H' y => ?_⟩
              obtain ⟨T, x1, x2, rfl, hT, rfl, y1, y2⟩ := y
              have q1 := y1 xs (sql_ex s2 hx)
              have q2 := y2 ys (sql_ex s2 hy)
              have sT := same_new (o := .tup [x1, x2]) hT
              have dT : Dq K H1 (upd H2 T (.tup [x1, x2])) (.ref T) (.tuple [ds[i], ds'[i]]) := .tup (.of upd_same) (.cons (.base (kk i x1 _ q1 hde)) (.cons (.base (kk' i x2 _ q2 hde')) .nil))
              obtain ⟨G2, Tt, E⟩ := body H1 i _ _ _ hde hde' hee
              refine Tt.to _ _ _ ((IF.ex s2).ex sT) dT _ fun σ3 I3 w3 => ⟨w3.trans (wipe_wipe σ vs), ?_⟩
              show te σ3 _ _
              refine E σ3 _ I3 _ fun z H4 e4 hz4 => ⟨acc, e4 _ _ (sT _ _ hacc), ?_, by omega, ?_, acc ++ [z], upd_same, ?_⟩
              · rw [hq.1, List.length_take]; omega
              · intro c o hc
                rw [upd_ne (by rintro rfl; rw [hD] at hc; cases hc)]
                exact e4 c o (sT c o (s2 c o hc))
              · have ts := upd_sqt (K := K) (o := .lst (acc ++ [z])) (e4 _ _ (sT _ _ hacc))
                rw [List.take_add_one, hee]
                exact ((hq.ex (sT.trans e4)).mono ts).snoc (hz4.mono ts)
            · have e : i = es.length := by omega
              subst e
              refine .inl ⟨⟨xs, ys, sql_ex s2 hx, sql_ex s2 hy, by omega⟩, q D H2 acc (same_there e1 D hD) (e1.trans s2) hacc ?_⟩
              rw [List.take_length] at hq
              exact hq.dp s2
/-! more built-ins -/
theorem bls_of : ∀ {xs : List V} {bs : List Bool} {H : Hp}, DpAll K H xs (bs.map .bool) → xs = bs.map V.bl
  | _, [], _, h => by cases h; rfl
  | _, b :: bs, _, h => by
    cases h with
    | cons h1 h2 =>
      cases h1
      rw [List.map_cons, bls_of h2]
theorem ev_any {bs : List Bool} (h : EvO K B te G (bs.map .bool)) : Ev K B (tCB (rAny K) (tCons te tNil)) G (.bool (bs.any id)) := fun σ H I Q q =>
  h σ H I _ fun a H1 xs hn e1 ha h1 => by
    have e := bls_of h1
    subst e
    exact ⟨a, bs, rfl, .of ha, q _ H1 e1 (.base (.bl _))⟩
theorem ev_chain {td : TE} {p p' : Int → Int → Bool} {i j k : Int} (ha : EvP K B ta G (.int i)) (hb : EvP K B tb G (.int j)) (hc : EvP K B td G (.int k)) :
    Ev K B (tChain (rI0 fun i j => .bl (p i j)) (rI0 fun i j => .bl (p' i j)) ta tb td) G (.bool (p i j && p' j k)) := fun σ H I Q q =>
  ha σ H I _ fun v1 H1 e1 h1 => hb σ H1 (I.ex e1) _ fun v2 H2 e2 h2 => by
    cases h1; cases h2
    refine ⟨i, j, rfl, rfl, p i j, rfl, ?_⟩
    cases hp : p i j with
    | false =>
      rw [hp, Bool.false_and] at q
      exact iteF (q _ H2 (e1.trans e2) (.base (.bl _)))
    | true =>
      rw [hp, Bool.true_and] at q
      refine iteT ?_
      refine hc σ H2 (I.ex (e1.trans e2)) _ fun v3 H3 e3 h3 => ?_
      cases h3
      exact ⟨j, k, rfl, rfl, q _ H3 ((e1.trans e2).trans e3) (.base (.bl _))⟩
theorem ints_of : ∀ {xs : List V} {ns : List Int} {H : Hp}, DpAll K H xs (ns.map .int) → xs = ns.map V.int
  | _, [], _, h => by cases h; rfl
  | _, b :: bs, _, h => by
    cases h with
    | cons h1 h2 =>
      cases h1
      rw [List.map_cons, ints_of h2]
theorem inV_ints (x : Int) (ns : List Int) : inV (.int x) (ns.map V.int) = decide (x ∈ ns) := by
  unfold inV
  induction ns with
  | nil => rfl
  | cons n ns ih =>
    rw [List.map_cons, List.any_cons, ih]
    have : eqV (.int n) (.int x) = decide (x = n) := by
      unfold eqV
      by_cases c : x = n <;> simp [c] <;> omega
    rw [this]
    simp
theorem flat_ints : ∀ ns : List Int, (ns.map V.int).all flatV = true
  | [] => rfl
  | n :: ns => by rw [List.map_cons, List.all_cons, flat_ints ns]; rfl
theorem op_inL {x : Int} {ns : List Int} : Op K (rIn K false) (.int x) (.list (ns.map .int)) (.bool (decide (x ∈ ns))) := fun H v1 v2 h1 h2 Q q => by
  cases h1
  cases h2 with
  | @lst a xs _ hs hd =>
    have e := ints_of hd
    subst e
    refine ⟨a, _, rfl, .inl hs, rfl, flat_ints ns, ?_⟩
    show Q (.bl (inV (.int x) (ns.map V.int))) H
    rw [inV_ints]
    exact q _ fun _ => .bl _
theorem op_inT {x : Int} {ns : List Int} : Op K (rIn K false) (.int x) (.tuple (ns.map .int)) (.bool (decide (x ∈ ns))) := fun H v1 v2 h1 h2 Q q => by
  cases h1
  cases h2 with
  | @tup a xs _ hs hd =>
    have e := ints_of hd
    subst e
    refine ⟨a, _, rfl, .inr hs, rfl, flat_ints ns, ?_⟩
    show Q (.bl (inV (.int x) (ns.map V.int))) H
    rw [inV_ints]
    exact q _ fun _ => .bl _
theorem cutV_1 (xs : List V) : cutV xs (some 1) none = xs.drop 1 := by
  unfold cutV
  rw [show HT.sIx xs.length 0 (some 1) = min 1 xs.length from HT.sIx_nat xs.length 0 1, HT.sIx_none]
  cases xs with
  | nil => rfl
  | cons x r =>
    have : min 1 (x :: r).length = 1 := by rw [List.length_cons]; omega
    rw [this]
    show List.take ((x :: r).length - 1) r = r
    rw [List.length_cons, Nat.add_sub_cancel]
    exact List.take_length
/-- xs[1:] -/
theorem eo_from1 (h : EvP K B te G (.list ds)) : EvO K B (tSl (rSlL K) te (tPart (tC (.int 1))) tNoPart) G (ds.drop 1) := fun σ H I Q q =>
  h σ H I _ fun v H1 e1 h1 => by
    cases h1 with
    | @lst a xs _ hs hd =>
      refine ⟨1, rfl, a, xs, rfl, hs, fun p hp => ?_⟩
      rw [cutV_1]
      obtain ⟨l, k⟩ := dpa_iff.mp (dpa_ex (same_new (o := .lst (xs.drop 1)) hp) hd)
      exact q p _ _ (same_there e1 p hp) (e1.trans (same_new hp)) upd_same (dpa_iff.mpr ⟨by simp [l], fun n v e x1 x2 => by
        rw [List.getElem?_drop] at x1 x2
        exact k _ v e x1 x2⟩)
/-! ### a def's body -/
def start0 (ds : List PD) (n : Nat) : List Sl := ds.map .im ++ List.replicate (n - ds.length) .no
theorem env_start {H : Hp} {N : List Str} {vs : List V} {ds : List PD} (h : DpAll K H vs ds) (hl : vs.length ≤ N.length) : Env K H H (L2.start N vs) (start0 ds N.length) := by
  obtain ⟨l, k⟩ := dpa_iff.mp h
  refine ⟨Same.refl H, ?_, fun i x s h1 h2 => ?_, fun i j a es fs h1 h2 => ?_⟩
  · unfold L2.start start0
    simp [l]
  · unfold L2.start at h1
    unfold start0 at h2
    by_cases c : i < vs.length
    · rw [List.getElem?_append_left (by simpa using c), List.getElem?_map] at h1
      rw [List.getElem?_append_left (by simp; omega), List.getElem?_map] at h2
      obtain ⟨v, e1, rfl⟩ := Option.map_eq_some_iff.mp h1
      obtain ⟨d, e2, rfl⟩ := Option.map_eq_some_iff.mp h2
      exact ⟨v, rfl, .base (k i v d e1 e2)⟩
    · rw [List.getElem?_append_right (by simp; omega)] at h2
      have := List.getElem?_eq_some_iff.mp h2
      obtain ⟨_, e⟩ := this
      simp at e
      subst e
      trivial
  · unfold start0 at h1
    by_cases c : i < ds.length
    · rw [List.getElem?_append_left (by simpa using c), List.getElem?_map] at h1
      obtain ⟨d, e2, e3⟩ := Option.map_eq_some_iff.mp h1
      cases e3
    · rw [List.getElem?_append_right (by simp; omega)] at h1
      obtain ⟨_, e⟩ := List.getElem?_eq_some_iff.mp h1
      simp at e
/-- what a body's reading is to show -/
theorem goI {N : List Str} {vs : List V} {H : Hp} {Q : VK} {d : PD} (hd : DpAll K H vs ds) (hl : vs.length ≤ N.length) (q : ∀ v H', Same H H' → Dp K H' v d → Q v H')
    (h : St K H t (start0 ds N.length) (fun _ => False) (fun r => r = .im d)) : t { nx := fun _ H' => Q .non H', rt := Q } (L2.start N vs) H :=
  h (L2.start N vs) H _ (env_start hd hl) (fun _ _ _ z => z.elim) ⟨fun d' v H' e s g => by cases e; exact q v H' s (g.dp s), fun _ _ _ _ e => (by cases e)⟩
theorem goO {N : List Str} {vs : List V} {H : Hp} {Q : VK} (hd : DpAll K H vs ds) (hl : vs.length ≤ N.length) (q : ∀ a H' xs, H a = none → Same H H' → H' a = some (.lst xs) → DpAll K H' xs es → Q (.ref a) H')
    (h : St K H t (start0 ds N.length) (fun _ => False) (fun r => r = .ow es)) : t { nx := fun _ H' => Q .non H', rt := Q } (L2.start N vs) H :=
  h (L2.start N vs) H _ (env_start hd hl) (fun _ _ _ z => z.elim) ⟨fun _ _ _ e => (by cases e), fun ds' a xs H' e s hn ha g => by cases e; exact q a H' xs hn s ha (g.dp s)⟩
end
end PF

-- M9
set_option linter.all false
namespace LT
/-! ### numbers as pairs of ints -/
def Sz (n : Nat) (q : Rat) : Prop := q.num.natAbs < 2 ^ n ∧ q.den < 2 ^ n
theorem divInt_parts {t b : Int} (hb : b ≠ 0) : (Rat.divInt t b).num = t.fdiv (if b < 0 then 0 - (Nat.gcd t.natAbs b.natAbs : Int) else (Nat.gcd t.natAbs b.natAbs : Int)) ∧ ((Rat.divInt t b).den : Int) = b.fdiv (if b < 0 then 0 - (Nat.gcd t.natAbs b.natAbs : Int) else (Nat.gcd t.natAbs b.natAbs : Int)) := by
  have hg : 0 < Nat.gcd t.natAbs b.natAbs := Nat.gcd_pos_of_pos_right _ (by omega)
  obtain ⟨x, hx⟩ := Nat.gcd_dvd_left t.natAbs b.natAbs
  obtain ⟨y, hy⟩ := Nat.gcd_dvd_right t.natAbs b.natAbs
  have hc : Nat.Coprime x y := by
    have h := @Nat.coprime_div_gcd_div_gcd t.natAbs b.natAbs hg
    rw [show t.natAbs / Nat.gcd t.natAbs b.natAbs = x by conv => lhs; lhs; rw [hx]
                                                         exact Nat.mul_div_cancel_left _ hg, show b.natAbs / Nat.gcd t.natAbs b.natAbs = y by conv => lhs; lhs; rw [hy]
                                                                                                                                              exact Nat.mul_div_cancel_left _ hg] at h
    exact h
  generalize Nat.gcd t.natAbs b.natAbs = g at *
  have hy0 : y ≠ 0 := by
    intro e
    subst e
    simp at hy
    omega
  -- the signed divisor
  obtain ⟨d, hd, hd0, a, ha, hab, hbb⟩ : ∃ d : Int, (if b < 0 then 0 - (g : Int) else (g : Int)) = d ∧ d ≠ 0 ∧ ∃ a : Int, t = a * d ∧ a.natAbs = x ∧ b = (y : Int) * d := by
    by_cases hneg : b < 0
    · refine ⟨0 - (g : Int), by rw [if_pos hneg], by omega, if t < 0 then (x : Int) else -(x : Int), ?_, ?_, ?_⟩
      · by_cases ht : t < 0
        · rw [if_pos ht]
          have : (t.natAbs : Int) = (g : Int) * (x : Int) := by rw [hx]; exact Int.natCast_mul _ _
          have h2 : (t.natAbs : Int) = -t := by omega
          grind
        · rw [if_neg ht]
          have : (t.natAbs : Int) = (g : Int) * (x : Int) := by rw [hx]; exact Int.natCast_mul _ _
          have h2 : (t.natAbs : Int) = t := by omega
          grind
      · split <;> omega
      · have : (b.natAbs : Int) = (g : Int) * (y : Int) := by rw [hy]; exact Int.natCast_mul _ _
        have h2 : (b.natAbs : Int) = -b := by omega
        grind
    · refine ⟨(g : Int), by rw [if_neg hneg], by omega, if t < 0 then -(x : Int) else (x : Int), ?_, ?_, ?_⟩
      · by_cases ht : t < 0
        · rw [if_pos ht]
          have : (t.natAbs : Int) = (g : Int) * (x : Int) := by rw [hx]; exact Int.natCast_mul _ _
          have h2 : (t.natAbs : Int) = -t := by omega
          grind
        · rw [if_neg ht]
          have : (t.natAbs : Int) = (g : Int) * (x : Int) := by rw [hx]; exact Int.natCast_mul _ _
          have h2 : (t.natAbs : Int) = t := by omega
          grind
      · split <;> omega
      · have : (b.natAbs : Int) = (g : Int) * (y : Int) := by rw [hy]; exact Int.natCast_mul _ _
        have h2 : (b.natAbs : Int) = b := by omega
        grind
  rw [hd]
  have e : Rat.divInt t b = ⟨a, y, hy0, by rw [hab]; exact hc⟩ := by
    rw [Rat.mk_eq_divInt, ha, hbb, Rat.divInt_mul_right hd0]
  rw [e]
  refine ⟨?_, ?_⟩
  · show a = t.fdiv d
    rw [ha, Int.mul_fdiv_cancel _ hd0]
  · show (y : Int) = b.fdiv d
    rw [hbb, Int.mul_fdiv_cancel _ hd0]
theorem divInt_small {t b : Int} (hb : b ≠ 0) : (Rat.divInt t b).num.natAbs ≤ t.natAbs ∧ (Rat.divInt t b).den ≤ b.natAbs := by
  obtain ⟨m, hm, h1, h2⟩ := Rat.divInt_num_den (n := t) (d := b) (n' := (Rat.divInt t b).num) (d' := (Rat.divInt t b).den) (z' := (Rat.divInt t b).den_nz) (c := (Rat.divInt t b).reduced) hb rfl
  have hm' : 1 ≤ m.natAbs := by omega
  refine ⟨?_, ?_⟩
  · have : t.natAbs = (Rat.divInt t b).num.natAbs * m.natAbs := by conv => lhs; rw [h1]
                                                                   exact Int.natAbs_mul _ _
    rw [this]
    exact Nat.le_mul_of_pos_right _ hm'
  · have : b.natAbs = (Rat.divInt t b).den * m.natAbs := by
      conv => lhs; rw [h2]
      rw [Int.natAbs_mul, Int.natAbs_natCast]
    rw [this]
    exact Nat.le_mul_of_pos_right _ hm'
theorem add_parts (a b : Rat) : a + b = Rat.divInt (a.num * b.den + b.num * a.den) (a.den * b.den) := by
  conv => lhs; rw [← Rat.num_divInt_den a, ← Rat.num_divInt_den b]
  rw [Rat.divInt_add_divInt _ _ (by have := a.den_nz; omega) (by have := b.den_nz; omega)]
theorem sub_parts (a b : Rat) : a - b = Rat.divInt (a.num * b.den - b.num * a.den) (a.den * b.den) := by
  conv => lhs; rw [← Rat.num_divInt_den a, ← Rat.num_divInt_den b]
  rw [Rat.divInt_sub_divInt _ _ (by have := a.den_nz; omega) (by have := b.den_nz; omega)]
theorem mul_parts (a b : Rat) : a * b = Rat.divInt (a.num * b.num) (a.den * b.den) := by
  conv => lhs; rw [← Rat.num_divInt_den a, ← Rat.num_divInt_den b]
  rw [Rat.divInt_mul_divInt]
theorem div_parts (a b : Rat) : a / b = Rat.divInt (a.num * b.den) (a.den * b.num) := by
  conv => lhs; rw [← Rat.num_divInt_den a, ← Rat.num_divInt_den b]
  rw [Rat.div_def, Rat.inv_divInt, Rat.divInt_mul_divInt]
theorem lt_parts (a b : Rat) : decide (a.num * b.den < b.num * a.den) = decide (a < b) := by
  rw [decide_eq_decide]; exact (Rat.lt_iff a b).symm
theorem pw {x y a b : Nat} (hx : x < 2 ^ a) (hy : y < 2 ^ b) : x * y < 2 ^ (a + b) := by
  rw [Nat.pow_add]; exact Nat.mul_lt_mul'' hx hy
theorem sz_mono {n m : Nat} {q : Rat} (h : Sz n q) (hm : n ≤ m) : Sz m q := ⟨Nat.lt_of_lt_of_le h.1 (Nat.pow_le_pow_right (by decide) hm), Nat.lt_of_lt_of_le h.2 (Nat.pow_le_pow_right (by decide) hm)⟩
theorem sz_div {n : Nat} {t b : Int} (hb : b ≠ 0) (h1 : t.natAbs < 2 ^ n) (h2 : b.natAbs < 2 ^ n) : Sz n (Rat.divInt t b) := by
  have := divInt_small (t := t) hb
  exact ⟨Nat.lt_of_le_of_lt this.1 h1, Nat.lt_of_le_of_lt this.2 h2⟩
theorem cross_lt {n m : Nat} {a b : Rat} (ha : Sz n a) (hb : Sz m b) : (a.num * b.den).natAbs < 2 ^ (n + m) ∧ (b.num * a.den).natAbs < 2 ^ (n + m) ∧ a.den * b.den < 2 ^ (n + m) ∧ (a.num * b.num).natAbs < 2 ^ (n + m) ∧ (a.den * b.num).natAbs < 2 ^ (n + m) := by
  refine ⟨?_, ?_, pw ha.2 hb.2, ?_, ?_⟩
  · rw [Int.natAbs_mul, Int.natAbs_natCast]; exact pw ha.1 hb.2
  · rw [Int.natAbs_mul, Int.natAbs_natCast, Nat.add_comm]; exact pw hb.1 ha.2
  · rw [Int.natAbs_mul]; exact pw ha.1 hb.1
  · rw [Int.natAbs_mul, Int.natAbs_natCast]; exact pw ha.2 hb.1
theorem den_ne (a b : Rat) : ((a.den * b.den : Nat) : Int) ≠ 0 := by
  have h1 := a.den_nz
  have h2 := b.den_nz
  have : a.den * b.den ≠ 0 := Nat.mul_ne_zero h1 h2
  omega
theorem sz_add {n m : Nat} {a b : Rat} (ha : Sz n a) (hb : Sz m b) : Sz (n + m + 1) (a + b) := by
  obtain ⟨h1, h2, h3, _⟩ := cross_lt ha hb
  have e : (2 : Nat) ^ (n + m + 1) = 2 * 2 ^ (n + m) := by rw [Nat.pow_succ]; omega
  rw [add_parts, ← Int.natCast_mul]
  exact sz_div (den_ne a b) (by omega) (by omega)
theorem sz_sub {n m : Nat} {a b : Rat} (ha : Sz n a) (hb : Sz m b) : Sz (n + m + 1) (a - b) := by
  obtain ⟨h1, h2, h3, _⟩ := cross_lt ha hb
  have e : (2 : Nat) ^ (n + m + 1) = 2 * 2 ^ (n + m) := by rw [Nat.pow_succ]; omega
  rw [sub_parts, ← Int.natCast_mul]
  exact sz_div (den_ne a b) (by omega) (by omega)
theorem sz_mul {n m : Nat} {a b : Rat} (ha : Sz n a) (hb : Sz m b) : Sz (n + m) (a * b) := by
  obtain ⟨h1, h2, h3, h4, _⟩ := cross_lt ha hb
  rw [mul_parts, ← Int.natCast_mul]
  exact sz_div (den_ne a b) h4 (by omega)
theorem sz_quo {n m : Nat} {a b : Rat} (ha : Sz n a) (hb : Sz m b) (h0 : b ≠ 0) : Sz (n + m) (a / b) := by
  obtain ⟨h1, h2, h3, h4, h5⟩ := cross_lt ha hb
  rw [div_parts]
  refine sz_div ?_ h1 h5
  have h6 := a.den_nz
  have h7 : b.num ≠ 0 := fun e => h0 (Rat.num_eq_zero.mp e)
  exact Int.mul_ne_zero (by omega) h7
end LT

-- P5
set_option linter.all false
set_option maxRecDepth 100000
set_option maxHeartbeats 2000000
namespace PF
open PySem PySem.Spec PyProof.Rows L2 LT
/-! ### the text, defs by their names -/
def topS (i : Nat) : Stmt := PySem.Challenge.pw_leadtimes_k49_whole_shifted_and_tilted.main.body.getD i (.Pass ⟨0, 0, 0, 0⟩)
/-- a def of the top, where it stands -/
def Df (K : PySem.W.Frag) (mg : Str → Option Value) (x : Str) (st : Stmt) (ps : List Str) : Prop := ∃ f fd, Fun K x x st f fd ∧ mg x = some (.ref f) ∧ Binds K fd ps []
/-- a def that keeps its promise -/
def Cal (P : Program) (w : World) (K : PySem.W.Frag) (mg : Str → Option Value) (base : Heap) (k : Nat) (x : Str) (ps : List Str) (sp : Sp) : Prop :=
  ∃ f fd, FnOk P w K mg base CX0 k f fd ps sp ∧ mg x = some (.ref f) ∧ PySem.W.keepIn K (.ref f) = true ∧ Binds K fd ps []
theorem pe_cal {X : Cx} {k : Nat} {x : Str} {ps : List Str} {sp : Sp} {p pos : Pos} {e : Expr} {es : List Expr} {t : TA} (C : Cal X.prog X.w X.K X.mg X.base k x ps sp) (hr : Room k X.A) (hg : Gl X x) (ha : PA X (e :: es) t)
    (hdb : (x == ("__debug__" : Str)) = false := by decide) (he : starEach (e :: es) X.env = (false, eval e X.env) :: starEach es X.env := by rfl) (hpl : (backTo pos (starEach es X.env)).any (·.1) = false := by rfl) :
    PE X (.Call (.Name x p) (e :: es) [] pos) (tCall sp [] E0 t) := by
  obtain ⟨f, fd, F, m, kp, b⟩ := C
  exact pe_call F hr hg m kp b .nil pass0 ha hdb he hpl
section
variable {P : Program} {w : World} {K : PySem.W.Frag} {mg : Str → Option Value} {base : Heap}
theorem Cal.of {x : Str} {st : Stmt} {ps N : List Str} {k : Nat} {sp : Sp} (D : Df K mg x st ps) (S : FnScope N ps (defScope st)) (len : ∀ vs H Q E, sp vs H Q E → vs.length = ps.length)
    (hbody : ∀ (f : Addr) (cdv : Value) (A : Around) (outer : List PySem.Env) (s : Shared) (H : Hp) (vs : List V) (Q : VK) (E : XK), Room k (A.deeper (envOfC x (defScope st) s.heap.objs.size f cdv)) → sp vs H Q E →
      ∃ t, PSs (cxOf CX0 P w K mg base N x (defScope st) f cdv A outer s H E).nox (defBody st) t ∧ t { nx := fun _ H' => Q .non H', rt := Q } (L2.start N vs) H) : Cal P w K mg base (k + 1) x ps sp := by
  obtain ⟨f, fd, F, m, b⟩ := D
  exact ⟨f, fd, F.ok S len (hbody f), m, F.kp, b⟩
theorem Cal.ofI {x : Str} {st : Stmt} {ps N : List Str} {k : Nat} {R : List PD → PD → Prop} (D : Df K mg x st ps) (S : FnScope N ps (defScope st)) (hN : ps.length ≤ N.length) (hl : ∀ ds d, R ds d → ds.length = ps.length)
    (hbody : ∀ (f : Addr) (cdv : Value) (A : Around) (outer : List PySem.Env) (s : Shared) (H : Hp) (E : XK), Room k (A.deeper (envOfC x (defScope st) s.heap.objs.size f cdv)) → ∀ ds d, R ds d →
      ∃ t, PSs (cxOf CX0 P w K mg base N x (defScope st) f cdv A outer s H E).nox (defBody st) t ∧ St K H t (start0 ds N.length) (fun _ => False) (fun r => r = .im d)) : Cal P w K mg base (k + 1) x ps (SpI K R) := by
  refine Cal.of D S (fun vs H Q E h => ?_) (fun f cdv A outer s H vs Q E hr h => ?_)
  · obtain ⟨ds, d, h1, h2, _⟩ := h
    rw [(dpa_iff.mp h1).1, hl ds d h2]
  · obtain ⟨ds, d, h1, h2, h3, q⟩ := h
    obtain ⟨t, h4, h5⟩ := hbody f cdv A outer s H E hr ds d h2
    exact ⟨t, h4, goI h1 (by rw [(dpa_iff.mp h1).1, hl ds d h2]; exact hN) q h5⟩
theorem Cal.ofO {x : Str} {st : Stmt} {ps N : List Str} {k : Nat} {R : List PD → List PD → Prop} (D : Df K mg x st ps) (S : FnScope N ps (defScope st)) (hN : ps.length ≤ N.length) (hl : ∀ ds d, R ds d → ds.length = ps.length)
    (hbody : ∀ (f : Addr) (cdv : Value) (A : Around) (outer : List PySem.Env) (s : Shared) (H : Hp) (E : XK), Room k (A.deeper (envOfC x (defScope st) s.heap.objs.size f cdv)) → ∀ ds d, R ds d →
      ∃ t, PSs (cxOf CX0 P w K mg base N x (defScope st) f cdv A outer s H E).nox (defBody st) t ∧ St K H t (start0 ds N.length) (fun _ => False) (fun r => r = .ow d)) : Cal P w K mg base (k + 1) x ps (SpO K R) := by
  refine Cal.of D S (fun vs H Q E h => ?_) (fun f cdv A outer s H vs Q E hr h => ?_)
  · obtain ⟨ds, d, h1, h2, _⟩ := h
    rw [(dpa_iff.mp h1).1, hl ds d h2]
  · obtain ⟨ds, d, h1, h2, q⟩ := h
    obtain ⟨t, h4, h5⟩ := hbody f cdv A outer s H E hr ds d h2
    exact ⟨t, h4, goO h1 (by rw [(dpa_iff.mp h1).1, hl ds d h2]; exact hN) q h5⟩
end
/-! ### // of any sign -/
def CDN (_ j : Int) : Prop := j ≠ 0 ∧ j.natAbs.log2 < 9000
theorem op_fdN {X : Cx} : OpR X (binaryOp .FloorDiv) (rI CDN fun i j => .int (i.fdiv j)) := opI fun i j _ _ _ _ _ hc q => floordiv_int hc.1 q (.inl (PyProof.noPylong_of_log2 hc.2))
theorem ix_listK {X : Cx} {K : PySem.W.Frag} (h : X.K = K) : IxR X (rIxL K) := h ▸ ix_list
theorem ix_tupK {X : Cx} {K : PySem.W.Frag} (h : X.K = K) : IxR X (rIxT K) := h ▸ ix_tup
theorem pg_tupK {X : Cx} {K : PySem.W.Frag} {es : List Expr} {k : Nat} {pos : Pos} {t : TGs} (n : Nat) (hK : X.K = K) (hc : X.calm = true) (h : PGs X es t) (hn : (assignEach es X.env).length = n := by rfl) (hst : (assignEach es X.env).findIdx? (·.1) = none := by rfl) : PG X (.Tuple es k pos) (gTup K n t) := by
  subst hK
  exact pg_tup hc h hn hst
abbrev op_mdN {X : Cx} := @op_mod X
/-! ### the names of the top and of Python -/
structure Txt (mg : Str → Option Value) : Prop where
  z_len : mg "len" = none
  z_abs : mg "abs" = none
  z_min : mg "min" = none
  z_isinstance : mg "isinstance" = none
  z_any : mg "any" = none
  z_range : mg "range" = none
  z_zip : mg "zip" = none
  z_list : mg "list" = none
  z_int : mg "int" = none
  z_bool : mg "bool" = none
theorem boot_abs : bootBuiltins "abs" = some (.builtin "abs") := by decide +kernel
theorem boot_min : bootBuiltins "min" = some (.builtin "min") := by decide +kernel
theorem boot_isinstance : bootBuiltins "isinstance" = some (.builtin "isinstance") := by decide +kernel
theorem boot_any : bootBuiltins "any" = some (.builtin "any") := by decide +kernel
theorem boot_list : bootBuiltins "list" = some (.type "list") := by decide +kernel
theorem boot_int : bootBuiltins "int" = some (.type "int") := by decide +kernel
theorem boot_bool : bootBuiltins "bool" = some (.type "bool") := by decide +kernel
/-! ### numbers -/
def nm (q : Rat) : PD := .tuple [.int q.num, .int q.den]
theorem nm_noL (q : Rat) : noL (nm q) = true := rfl
theorem nm_shaped (q : Rat) : SeqAt.shaped (nm q) = true := by
  show (PyData.canLay0 (nm q) && decide (PyData.depth (nm q) ≤ 64)) = true
  simp [nm, PyData.canLay0, PyData.canLayAll0, PyData.depth, PyData.depthAll]
theorem nm_eqv (a b : Rat) : PyData.eqv (nm a) (nm b) = decide (a = b) := by
  have e : PyData.eqv (nm a) (nm b) = ((a.num == b.num) && (((a.den : Int) == (b.den : Int)) && true)) := by simp only [nm, PyData.eqv, PyData.eqvAll]
  rw [e]
  by_cases h : a = b
  · subst h; simp
  · rw [decide_eq_false h]
    by_cases h1 : a.num = b.num
    · have h2 : a.den ≠ b.den := fun z => h (Rat.ext h1 z)
      have : ((a.den : Int) == (b.den : Int)) = false := beq_eq_false_iff_ne.mpr (by omega)
      rw [this]; simp
    · rw [beq_eq_false_iff_ne.mpr h1]; rfl
theorem int_shaped (i : Int) : SeqAt.shaped (.int i) = true := by
  show (PyData.canLay0 (.int i) && decide (PyData.depth (.int i) ≤ 64)) = true
  simp [PyData.canLay0, PyData.depth]
theorem int_eqv (i j : Int) : PyData.eqv (.int i) (.int j) = decide (i = j) := by
  have e : PyData.eqv (.int i) (.int j) = (i == j) := by simp only [PyData.eqv]
  rw [e, Bool.beq_eq_decide_eq]
section
variable {P : Program} {w : World} {K : PySem.W.Frag} {mg : Str → Option Value} {base : Heap} {B : Hp} {G : List Sl} {te ta tb : TE}
/-! is_whole -/
def R_is_whole (ds : List PD) (d : PD) : Prop := ∃ i : Int, ds = [.int i] ∧ d = .bool true
abbrev s_is_whole : Stmt := topS 6
theorem sc_is_whole : FnScope ["thing"] ["thing"] (defScope s_is_whole) := ⟨rfl, rfl, rfl, by decide +kernel, rfl, by decide +kernel, by decide +kernel⟩
theorem ev_isint {i : Int} {n : String} {b : Bool} (h : EvP K B te G (.int i)) (hk : kitB "int" n = some b) : Ev K B (tCB (rIsi K) (tCons te (tCons (tC (.ty n)) tNil))) G (.bool b) := fun σ H I Q q =>
  h σ H I _ fun v H1 e1 h1 => by
    cases h1
    exact ⟨.int i, .ty n, .type "int", .type n, b, rfl, .ty n, .base (.int i), kit_ty hk, q _ H1 e1 (.base (.bl _))⟩
theorem ok_is_whole (D : Df K mg "is_whole" s_is_whole ["thing"]) (T : Txt mg) : Cal P w K mg base 1 "is_whole" ["thing"] (SpI K R_is_whole) := by
  refine Cal.ofI D sc_is_whole (by decide) (fun ds d h => by obtain ⟨i, rfl, _⟩ := h; rfl) (fun f cdv A outer s H E hr ds d h => ?_)
  obtain ⟨i, rfl, rfl⟩ := h
  refine ⟨_, (pss_one (ps_ret (pe_and (pe_callB call_isi (by rfl) T.z_isinstance boot_isinstance (pa_cons (pv 0) (pa_cons (pe_bltn (v := .ty "int") (by rfl) T.z_int boot_int rfl) pa_nil))) (pe_one (pe_not (pe_callB call_isi (by rfl) T.z_isinstance boot_isinstance (pa_cons (pv 0) (pa_cons (pe_bltn (v := .ty "bool") (by rfl) T.z_bool boot_bool rfl) pa_nil)))))))), ?_⟩
  exact s_ret (ev_andV (ev_isint (ev_var rfl).p (b := true) (by decide +kernel)) (fun _ => ev_notV (ev_isint (ev_var rfl).p (b := false) (by decide +kernel)))) rfl
theorem ev_is_whole {i : Int} (h : EvP K B te G (.int i)) : Ev K B (tCall (SpI K R_is_whole) [] E0 (tCons te tNil)) G (.bool true) := ev_call (eap_cons h eap_nil) ⟨i, rfl, rfl⟩ rfl
/-! common -/
def R_common (ds : List PD) (d : PD) : Prop := ∃ i j : Int, ds = [.int i, .int j] ∧ d = .int (Nat.gcd i.natAbs j.natAbs : Nat)
abbrev s_common : Stmt := topS 7
theorem sc_common : FnScope ["one", "other"] ["one", "other"] (defScope s_common) := ⟨rfl, rfl, rfl, by decide +kernel, rfl, by decide +kernel, by decide +kernel⟩
theorem abs_if (i : Int) : (if i < 0 then -i else i) = (i.natAbs : Int) := by split <;> omega
theorem ok_common (D : Df K mg "common" s_common ["one", "other"]) (T : Txt mg) : Cal P w K mg base 1 "common" ["one", "other"] (SpI K R_common) := by
  refine Cal.ofI D sc_common (by decide) (fun ds d h => by obtain ⟨i, j, rfl, _⟩ := h; rfl) (fun f cdv A outer s H E hr ds d h => ?_)
  obtain ⟨i, j, rfl, rfl⟩ := h
  refine ⟨_, (pss_cons (ps_set (i := 0) sc_common.nd rfl (.inl rfl) (pe_callB call_abs (by rfl) T.z_abs boot_abs (pa_cons (pv 0) pa_nil)))
      (pss_cons (ps_set (i := 1) sc_common.nd rfl (.inl rfl) (pe_callB call_abs (by rfl) T.z_abs boot_abs (pa_cons (pv 1) pa_nil)))
      (pss_cons (ps_while PassesOwn.never (pt_cmpR op_gt (pv 1) pe_int (nomark _)) (pss_one (ps_par (i := 0) (j := 1) (by rfl) sc_common.nd rfl rfl (by decide) rfl rfl (pa_cons (pv 1) (pa_cons (pe_op op_mdN (pv 0) (pv 1)) pa_nil)) (by rfl))))
      (pss_one (ps_ret (pv 0)))))), ?_⟩
  refine s_seq (s_set (ev_abs (ev_var rfl).p) (s_seq (s_set (ev_abs (ev_var rfl).p) (s_seqM (M := fun G => G = [.im (.int (Nat.gcd i.natAbs j.natAbs : Nat)), .im (.int 0)])
    (s_while (fun m G => ∃ a : Nat, Nat.gcd a m = Nat.gcd i.natAbs j.natAbs ∧ G = [.im (.int a), .im (.int m)]) j.natAbs ⟨i.natAbs, rfl, by rw [abs_if, abs_if]; rfl⟩ ?_) ?_))))
  · rintro m G ⟨a, hg, rfl⟩
    refine ⟨_, et_test (ev_op (ev_var rfl).p ev_int.p op_ib), fun hb => ?_, fun hb => ?_⟩
    · have hm : (0 : Int) < m := of_decide_eq_true hb
      refine s_par (ea_cons (ev_var rfl) (ea_cons (ev_op (ev_var rfl).p (ev_var rfl).p (op_iC hm)) ea_nil)) ⟨a % m, Nat.mod_lt _ (by omega), m, ?_, ?_⟩
      · rw [← hg, Nat.gcd_comm a m, Nat.gcd_rec m a, Nat.gcd_comm]
      · rw [← Int.natCast_emod]; rfl
    · have hm : ¬ (0 : Int) < m := of_decide_eq_false hb
      have : m = 0 := by omega
      subst this
      rw [← hg, Nat.gcd_zero_right]; rfl
  · rintro G rfl
    exact s_ret (ev_var rfl) rfl
theorem ev_common {i j : Int} (h : EvP K B ta G (.int i)) (h' : EvP K B tb G (.int j)) : Ev K B (tCall (SpI K R_common) [] E0 (tCons ta (tCons tb tNil))) G (.int (Nat.gcd i.natAbs j.natAbs : Nat)) := ev_call (eap_cons h (eap_cons h' eap_nil)) ⟨i, j, rfl, rfl⟩ rfl
/-! number_of -/
def R_number_of (ds : List PD) (d : PD) : Prop := ∃ i j : Int, j ≠ 0 ∧ j.natAbs < 2 ^ 8000 ∧ ds = [.int i, .int j] ∧ d = nm (Rat.divInt i j)
abbrev s_number_of : Stmt := topS 8
theorem sc_number_of : FnScope ["top", "bottom", "divisor"] ["top", "bottom"] (defScope s_number_of) := ⟨rfl, rfl, rfl, by decide +kernel, rfl, by decide +kernel, by decide +kernel⟩
theorem gcd_ok {i j d : Int} (hj : j ≠ 0) (hz : j.natAbs < 2 ^ 8000) (hd : d.natAbs = Nat.gcd i.natAbs j.natAbs) : ∀ x, CDN x d := fun x => by
  have h1 : 0 < Nat.gcd i.natAbs j.natAbs := Nat.gcd_pos_of_pos_right _ (by omega)
  have h2 : Nat.gcd i.natAbs j.natAbs ≤ j.natAbs := Nat.gcd_le_right _ (by omega)
  refine ⟨by omega, ?_⟩
  have h3 : d.natAbs < 2 ^ 8000 := by rw [hd]; exact Nat.lt_of_le_of_lt h2 hz
  exact Nat.lt_of_lt_of_le (PySem.Flt.log2_lt_of (by decide) h3) (by decide)
theorem ok_number_of (D : Df K mg "number_of" s_number_of ["top", "bottom"]) (T : Txt mg) (C_is_whole : Cal P w K mg base 1 "is_whole" ["thing"] (SpI K R_is_whole)) (C_common : Cal P w K mg base 1 "common" ["one", "other"] (SpI K R_common)) :
    Cal P w K mg base 2 "number_of" ["top", "bottom"] (SpI K R_number_of) := by
  refine Cal.ofI D sc_number_of (by decide) (fun ds d h => by obtain ⟨i, j, _, _, rfl, _⟩ := h; rfl) (fun f cdv A outer s H E hr ds d h => ?_)
  obtain ⟨i, j, hj, hz, rfl, rfl⟩ := h
  refine ⟨_, (pss_cons (ps_if (PW.pt (pw_or (pt_not (pt_val (pe_cal C_is_whole (hr.mono (by omega)) (by rfl) (pa_cons (pv 0) pa_nil)))) (pw_or (pt_not (pt_val (pe_cal C_is_whole (hr.mono (by omega)) (by rfl) (pa_cons (pv 1) pa_nil)))) (pw_or1 (pt_cmpR (op_eqD hr.units) (pv 1) pe_int (nomark _)))))) (pss_one ps_never) pss_nil)
      (pss_cons (ps_set (i := 2) sc_number_of.nd rfl (.inl rfl) (pe_cal C_common (hr.mono (by omega)) (by rfl) (pa_cons (pv 0) (pa_cons (pv 1) pa_nil))))
      (pss_cons (ps_if (pt_cmpR op_lt (pv 1) pe_int (nomark _)) (pss_one (ps_set (i := 2) sc_number_of.nd rfl (.inl rfl) (pe_op op_sub pe_int (pv 2)))) pss_nil)
      (pss_one (ps_ret (pe_tup (pa_cons (pe_op op_fdN (pv 0) (pv 2)) (pa_cons (pe_op op_fdN (pv 1) (pv 2)) pa_nil)))))))), ?_⟩
  refine s_seq (s_if (b := false) ((et_or (et_not (et_B (ev_is_whole (ev_var rfl).p))) (fun _ => et_or (et_not (et_B (ev_is_whole (ev_var rfl).p))) (fun _ => et_test (ev_op (ev_var rfl).p ev_int.p (op_eq' (int_shaped _) (int_shaped _)))))).is ?_) (fun z => nomatch z) (fun _ => s_next ?_))
  · rw [int_eqv, decide_eq_false hj]; rfl
  refine s_seq (s_set (ev_common (ev_var rfl).p (ev_var rfl).p) ?_)
  have fin : ∀ e : Int, e = (if j < 0 then 0 - (Nat.gcd i.natAbs j.natAbs : Int) else (Nat.gcd i.natAbs j.natAbs : Int)) → St K H (tRet (tTup (tCons (tOp (rI CDN fun i j => .int (i.fdiv j)) (tVar 0) (tVar 2)) (tCons (tOp (rI CDN fun i j => .int (i.fdiv j)) (tVar 1) (tVar 2)) tNil)))) [.im (.int i), .im (.int j), .im (.int e)] (fun _ => False) (fun r => r = .im (nm (Rat.divInt i j))) := by
    intro e he
    have hd : e.natAbs = Nat.gcd i.natAbs j.natAbs := by rw [he]; split <;> omega
    refine s_ret (ev_tup (ea_cons (ev_op (ev_var rfl).p (ev_var rfl).p (op_iC (gcd_ok hj hz hd _))) (ea_cons (ev_op (ev_var rfl).p (ev_var rfl).p (op_iC (gcd_ok hj hz hd _))) ea_nil))) ?_
    obtain ⟨p1, p2⟩ := divInt_parts (t := i) hj
    rw [← he] at p1 p2
    unfold nm
    rw [p1, p2]
  by_cases hneg : j < 0
  · refine s_seq (s_if (et_test (ev_op (ev_var rfl).p ev_int.p op_ib)) (fun _ => s_set (ev_op ev_int.p (ev_var rfl).p op_i0) ?_) (fun z => absurd hneg (of_decide_eq_false z)))
    exact fin _ (by rw [if_pos hneg])
  · refine s_seq (s_if (et_test (ev_op (ev_var rfl).p ev_int.p op_ib)) (fun z => absurd (of_decide_eq_true z) hneg) (fun _ => s_next ?_))
    exact fin _ (by rw [if_neg hneg])
theorem ev_number_of {i j : Int} (hj : j ≠ 0) (hz : j.natAbs < 2 ^ 8000) (h : EvP K B ta G (.int i)) (h' : EvP K B tb G (.int j)) : Ev K B (tCall (SpI K R_number_of) [] E0 (tCons ta (tCons tb tNil))) G (nm (Rat.divInt i j)) := ev_call (eap_cons h (eap_cons h' eap_nil)) ⟨i, j, hj, hz, rfl, rfl⟩ rfl
end
end PF

-- P6
set_option linter.all false
set_option maxRecDepth 100000
set_option maxHeartbeats 2000000
namespace PF
open PySem PySem.Spec PyProof.Rows L2 LT
/-! ### numbers, lines -/
abbrev SzB (q : Rat) : Prop := Sz 2000 q
theorem szb {n : Nat} {q : Rat} (h : Sz n q) (hn : n ≤ 2000 := by decide) : SzB q := sz_mono h hn
theorem mulW {x y : Int} (hx : x.natAbs < 2 ^ 2000) (hy : y.natAbs < 2 ^ 2000) : CMulW x y := wide_mul hx hy (by decide) (by decide) (by decide)
theorem den_lt {q : Rat} (h : SzB q) : ((q.den : Int)).natAbs < 2 ^ 2000 := by rw [Int.natAbs_natCast]; exact h.2
theorem den_big {a b : Rat} (ha : SzB a) (hb : SzB b) : ((a.den : Int) * (b.den : Int)).natAbs < 2 ^ 8000 := Nat.lt_of_lt_of_le (wide_lt (den_lt ha) (den_lt hb)) (Nat.pow_le_pow_right (by decide) (by decide))
theorem den_nz2 (a b : Rat) : (a.den : Int) * (b.den : Int) ≠ 0 := by rw [← Int.natCast_mul]; exact den_ne a b
section
variable {P : Program} {w : World} {K : PySem.W.Frag} {mg : Str → Option Value} {base : Heap} {B : Hp} {G : List Sl} {te ta tb tt : TE}
theorem ev_num {q : Rat} (h : Ev K B te G (nm q)) : Ev K B (tOp (rIxT K) te (tC (.int 0))) G (.int q.num) := ev_ixT h ev_int.p rfl
theorem ev_den {q : Rat} (h : Ev K B te G (nm q)) : Ev K B (tOp (rIxT K) te (tC (.int 1))) G (.int q.den) := ev_ixT h ev_int.p rfl
theorem ev_mulW {i j : Int} (h : Ev K B ta G (.int i)) (h' : Ev K B tb G (.int j)) (hi : i.natAbs < 2 ^ 2000) (hj : j.natAbs < 2 ^ 2000) : Ev K B (tOp (rI CMulW fun i j => .int (i * j)) ta tb) G (.int (i * j)) := ev_op h.p h'.p (op_iC (mulW hi hj))
def R_sum_of (ds : List PD) (d : PD) : Prop := ∃ a b, SzB a ∧ SzB b ∧ ds = [nm a, nm b] ∧ d = nm (a + b)
def R_difference_of (ds : List PD) (d : PD) : Prop := ∃ a b, SzB a ∧ SzB b ∧ ds = [nm a, nm b] ∧ d = nm (a - b)
def R_product_of (ds : List PD) (d : PD) : Prop := ∃ a b, SzB a ∧ SzB b ∧ ds = [nm a, nm b] ∧ d = nm (a * b)
def R_quotient_of (ds : List PD) (d : PD) : Prop := ∃ a b, SzB a ∧ SzB b ∧ b ≠ 0 ∧ ds = [nm a, nm b] ∧ d = nm (a / b)
def R_is_less (ds : List PD) (d : PD) : Prop := ∃ a b, SzB a ∧ SzB b ∧ ds = [nm a, nm b] ∧ d = .bool (decide (a < b))
abbrev s_sum_of : Stmt := topS 9
theorem sc_sum_of : FnScope ["a", "b"] ["a", "b"] (defScope s_sum_of) := ⟨rfl, rfl, rfl, by decide +kernel, rfl, by decide +kernel, by decide +kernel⟩
abbrev s_difference_of : Stmt := topS 10
theorem sc_difference_of : FnScope ["a", "b"] ["a", "b"] (defScope s_difference_of) := ⟨rfl, rfl, rfl, by decide +kernel, rfl, by decide +kernel, by decide +kernel⟩
abbrev s_product_of : Stmt := topS 11
theorem sc_product_of : FnScope ["a", "b"] ["a", "b"] (defScope s_product_of) := ⟨rfl, rfl, rfl, by decide +kernel, rfl, by decide +kernel, by decide +kernel⟩
abbrev s_quotient_of : Stmt := topS 12
theorem sc_quotient_of : FnScope ["a", "b"] ["a", "b"] (defScope s_quotient_of) := ⟨rfl, rfl, rfl, by decide +kernel, rfl, by decide +kernel, by decide +kernel⟩
abbrev s_is_less : Stmt := topS 13
theorem sc_is_less : FnScope ["a", "b"] ["a", "b"] (defScope s_is_less) := ⟨rfl, rfl, rfl, by decide +kernel, rfl, by decide +kernel, by decide +kernel⟩
theorem ok_sum_of (D : Df K mg "sum_of" s_sum_of ["a", "b"]) (C_number_of : Cal P w K mg base 2 "number_of" ["top", "bottom"] (SpI K R_number_of)) : Cal P w K mg base 3 "sum_of" ["a", "b"] (SpI K R_sum_of) := by
  refine Cal.ofI D sc_sum_of (by decide) (fun ds d h => by obtain ⟨a, b, _, _, rfl, _⟩ := h; rfl) (fun f cdv A outer s H E hr ds d h => ?_)
  obtain ⟨a, b, ha, hb, rfl, rfl⟩ := h
  refine ⟨_, (pss_one (ps_ret (pe_cal C_number_of (hr.mono (by omega)) (by rfl) (pa_cons (pe_op op_add (pe_op op_mulW (pe_ix (ix_tupK (K := K) rfl) (pv 0) pe_int (fun _ _ => rfl)) (pe_ix (ix_tupK (K := K) rfl) (pv 1) pe_int (fun _ _ => rfl))) (pe_op op_mulW (pe_ix (ix_tupK (K := K) rfl) (pv 1) pe_int (fun _ _ => rfl)) (pe_ix (ix_tupK (K := K) rfl) (pv 0) pe_int (fun _ _ => rfl)))) (pa_cons (pe_op op_mulW (pe_ix (ix_tupK (K := K) rfl) (pv 0) pe_int (fun _ _ => rfl)) (pe_ix (ix_tupK (K := K) rfl) (pv 1) pe_int (fun _ _ => rfl))) pa_nil))))), ?_⟩
  refine s_ret ((ev_number_of (den_nz2 a b) (den_big ha hb) (ev_op (ev_mulW (ev_num (ev_var rfl)) (ev_den (ev_var rfl)) ha.1 (den_lt hb)).p (ev_mulW (ev_num (ev_var rfl)) (ev_den (ev_var rfl)) hb.1 (den_lt ha)).p op_i0).p (ev_mulW (ev_den (ev_var rfl)) (ev_den (ev_var rfl)) (den_lt ha) (den_lt hb)).p).is ?_) rfl
  rw [add_parts]
theorem ok_difference_of (D : Df K mg "difference_of" s_difference_of ["a", "b"]) (C_number_of : Cal P w K mg base 2 "number_of" ["top", "bottom"] (SpI K R_number_of)) : Cal P w K mg base 3 "difference_of" ["a", "b"] (SpI K R_difference_of) := by
  refine Cal.ofI D sc_difference_of (by decide) (fun ds d h => by obtain ⟨a, b, _, _, rfl, _⟩ := h; rfl) (fun f cdv A outer s H E hr ds d h => ?_)
  obtain ⟨a, b, ha, hb, rfl, rfl⟩ := h
  refine ⟨_, (pss_one (ps_ret (pe_cal C_number_of (hr.mono (by omega)) (by rfl) (pa_cons (pe_op op_sub (pe_op op_mulW (pe_ix (ix_tupK (K := K) rfl) (pv 0) pe_int (fun _ _ => rfl)) (pe_ix (ix_tupK (K := K) rfl) (pv 1) pe_int (fun _ _ => rfl))) (pe_op op_mulW (pe_ix (ix_tupK (K := K) rfl) (pv 1) pe_int (fun _ _ => rfl)) (pe_ix (ix_tupK (K := K) rfl) (pv 0) pe_int (fun _ _ => rfl)))) (pa_cons (pe_op op_mulW (pe_ix (ix_tupK (K := K) rfl) (pv 0) pe_int (fun _ _ => rfl)) (pe_ix (ix_tupK (K := K) rfl) (pv 1) pe_int (fun _ _ => rfl))) pa_nil))))), ?_⟩
  refine s_ret ((ev_number_of (den_nz2 a b) (den_big ha hb) (ev_op (ev_mulW (ev_num (ev_var rfl)) (ev_den (ev_var rfl)) ha.1 (den_lt hb)).p (ev_mulW (ev_num (ev_var rfl)) (ev_den (ev_var rfl)) hb.1 (den_lt ha)).p op_i0).p (ev_mulW (ev_den (ev_var rfl)) (ev_den (ev_var rfl)) (den_lt ha) (den_lt hb)).p).is ?_) rfl
  rw [sub_parts]
theorem ok_product_of (D : Df K mg "product_of" s_product_of ["a", "b"]) (C_number_of : Cal P w K mg base 2 "number_of" ["top", "bottom"] (SpI K R_number_of)) : Cal P w K mg base 3 "product_of" ["a", "b"] (SpI K R_product_of) := by
  refine Cal.ofI D sc_product_of (by decide) (fun ds d h => by obtain ⟨a, b, _, _, rfl, _⟩ := h; rfl) (fun f cdv A outer s H E hr ds d h => ?_)
  obtain ⟨a, b, ha, hb, rfl, rfl⟩ := h
  refine ⟨_, (pss_one (ps_ret (pe_cal C_number_of (hr.mono (by omega)) (by rfl) (pa_cons (pe_op op_mulW (pe_ix (ix_tupK (K := K) rfl) (pv 0) pe_int (fun _ _ => rfl)) (pe_ix (ix_tupK (K := K) rfl) (pv 1) pe_int (fun _ _ => rfl))) (pa_cons (pe_op op_mulW (pe_ix (ix_tupK (K := K) rfl) (pv 0) pe_int (fun _ _ => rfl)) (pe_ix (ix_tupK (K := K) rfl) (pv 1) pe_int (fun _ _ => rfl))) pa_nil))))), ?_⟩
  refine s_ret ((ev_number_of (den_nz2 a b) (den_big ha hb) (ev_mulW (ev_num (ev_var rfl)) (ev_num (ev_var rfl)) ha.1 hb.1).p (ev_mulW (ev_den (ev_var rfl)) (ev_den (ev_var rfl)) (den_lt ha) (den_lt hb)).p).is ?_) rfl
  rw [mul_parts]
theorem ok_quotient_of (D : Df K mg "quotient_of" s_quotient_of ["a", "b"]) (C_number_of : Cal P w K mg base 2 "number_of" ["top", "bottom"] (SpI K R_number_of)) : Cal P w K mg base 3 "quotient_of" ["a", "b"] (SpI K R_quotient_of) := by
  refine Cal.ofI D sc_quotient_of (by decide) (fun ds d h => by obtain ⟨a, b, _, _, _, rfl, _⟩ := h; rfl) (fun f cdv A outer s H E hr ds d h => ?_)
  obtain ⟨a, b, ha, hb, h0, rfl, rfl⟩ := h
  have hn : (a.den : Int) * b.num ≠ 0 := by
    have h6 := a.den_nz
    have h7 : b.num ≠ 0 := fun e => h0 (Rat.num_eq_zero.mp e)
    exact Int.mul_ne_zero (by omega) h7
  have hbig : ((a.den : Int) * b.num).natAbs < 2 ^ 8000 := Nat.lt_of_lt_of_le (wide_lt (den_lt ha) hb.1) (Nat.pow_le_pow_right (by decide) (by decide))
  refine ⟨_, (pss_one (ps_ret (pe_cal C_number_of (hr.mono (by omega)) (by rfl) (pa_cons (pe_op op_mulW (pe_ix (ix_tupK (K := K) rfl) (pv 0) pe_int (fun _ _ => rfl)) (pe_ix (ix_tupK (K := K) rfl) (pv 1) pe_int (fun _ _ => rfl))) (pa_cons (pe_op op_mulW (pe_ix (ix_tupK (K := K) rfl) (pv 0) pe_int (fun _ _ => rfl)) (pe_ix (ix_tupK (K := K) rfl) (pv 1) pe_int (fun _ _ => rfl))) pa_nil))))), ?_⟩
  refine s_ret ((ev_number_of hn hbig (ev_mulW (ev_num (ev_var rfl)) (ev_den (ev_var rfl)) ha.1 (den_lt hb)).p (ev_mulW (ev_den (ev_var rfl)) (ev_num (ev_var rfl)) (den_lt ha) hb.1).p).is ?_) rfl
  rw [div_parts]
theorem ok_is_less (D : Df K mg "is_less" s_is_less ["a", "b"]) : Cal P w K mg base 1 "is_less" ["a", "b"] (SpI K R_is_less) := by
  refine Cal.ofI D sc_is_less (by decide) (fun ds d h => by obtain ⟨a, b, _, _, rfl, _⟩ := h; rfl) (fun f cdv A outer s H E hr ds d h => ?_)
  obtain ⟨a, b, ha, hb, rfl, rfl⟩ := h
  refine ⟨_, (pss_one (ps_ret (pe_cmpR op_lt (pe_op op_mulW (pe_ix (ix_tupK (K := K) rfl) (pv 0) pe_int (fun _ _ => rfl)) (pe_ix (ix_tupK (K := K) rfl) (pv 1) pe_int (fun _ _ => rfl))) (pe_op op_mulW (pe_ix (ix_tupK (K := K) rfl) (pv 1) pe_int (fun _ _ => rfl)) (pe_ix (ix_tupK (K := K) rfl) (pv 0) pe_int (fun _ _ => rfl))) (nomark _)))), ?_⟩
  refine s_ret ((ev_op (ev_mulW (ev_num (ev_var rfl)) (ev_den (ev_var rfl)) ha.1 (den_lt hb)).p (ev_mulW (ev_num (ev_var rfl)) (ev_den (ev_var rfl)) hb.1 (den_lt ha)).p op_ib).is ?_) rfl
  rw [lt_parts]
theorem ev_sum_of {a b : Rat} (ha : SzB a) (hb : SzB b) (h : EvP K B ta G (nm a)) (h' : EvP K B tb G (nm b)) : Ev K B (tCall (SpI K R_sum_of) [] E0 (tCons ta (tCons tb tNil))) G (nm (a + b)) := ev_call (eap_cons h (eap_cons h' eap_nil)) ⟨a, b, ha, hb, rfl, rfl⟩ rfl
theorem ev_difference_of {a b : Rat} (ha : SzB a) (hb : SzB b) (h : EvP K B ta G (nm a)) (h' : EvP K B tb G (nm b)) : Ev K B (tCall (SpI K R_difference_of) [] E0 (tCons ta (tCons tb tNil))) G (nm (a - b)) := ev_call (eap_cons h (eap_cons h' eap_nil)) ⟨a, b, ha, hb, rfl, rfl⟩ rfl
theorem ev_product_of {a b : Rat} (ha : SzB a) (hb : SzB b) (h : EvP K B ta G (nm a)) (h' : EvP K B tb G (nm b)) : Ev K B (tCall (SpI K R_product_of) [] E0 (tCons ta (tCons tb tNil))) G (nm (a * b)) := ev_call (eap_cons h (eap_cons h' eap_nil)) ⟨a, b, ha, hb, rfl, rfl⟩ rfl
theorem ev_quotient_of {a b : Rat} (ha : SzB a) (hb : SzB b) (h0 : b ≠ 0) (h : EvP K B ta G (nm a)) (h' : EvP K B tb G (nm b)) : Ev K B (tCall (SpI K R_quotient_of) [] E0 (tCons ta (tCons tb tNil))) G (nm (a / b)) := ev_call (eap_cons h (eap_cons h' eap_nil)) ⟨a, b, ha, hb, h0, rfl, rfl⟩ rfl
theorem ev_is_less {a b : Rat} (ha : SzB a) (hb : SzB b) (h : EvP K B ta G (nm a)) (h' : EvP K B tb G (nm b)) : Ev K B (tCall (SpI K R_is_less) [] E0 (tCons ta (tCons tb tNil))) G (.bool (decide (a < b))) := ev_call (eap_cons h (eap_cons h' eap_nil)) ⟨a, b, ha, hb, rfl, rfl⟩ rfl
theorem ev_ne_nm {a b : Rat} (h : EvP K B ta G (nm a)) (h' : EvP K B tb G (nm b)) : Ev K B (tOp (rNeD K) ta tb) G (.bool (!decide (a = b))) := (ev_op h h' (op_ne' (nm_shaped a) (nm_shaped b))).is (by rw [nm_eqv])
theorem ev_eq_nm {a b : Rat} (h : EvP K B ta G (nm a)) (h' : EvP K B tb G (nm b)) : Ev K B (tOp (rEqD K) ta tb) G (.bool (decide (a = b))) := (ev_op h h' (op_eq' (nm_shaped a) (nm_shaped b))).is (by rw [nm_eqv])
theorem ev_eq_int {a b : Int} (h : EvP K B ta G (.int a)) (h' : EvP K B tb G (.int b)) : Ev K B (tOp (rEqD K) ta tb) G (.bool (decide (a = b))) := (ev_op h h' (op_eq' (int_shaped a) (int_shaped b))).is (by rw [int_eqv])
theorem ev_ne_int {a b : Int} (h : EvP K B ta G (.int a)) (h' : EvP K B tb G (.int b)) : Ev K B (tOp (rNeD K) ta tb) G (.bool (!decide (a = b))) := (ev_op h h' (op_ne' (int_shaped a) (int_shaped b))).is (by rw [int_eqv])
theorem ev_un_neg {i : Int} (h : Ev K B te G (.int i)) : EvP K B (tUn (rU fun i => .int (-i)) te) G (.int (-i)) := fun σ H I Q q => h σ H I _ fun v H1 e1 h1 => by
  have h2 := h1.dp (I.sm.trans e1)
  cases h2
  exact ⟨i, rfl, q _ H1 e1 (.int _)⟩
/-! lines -/
def lnD (l : Ln) : PD := .tuple [nm l.1, nm l.2]
def linesD (n : Nat) (f : Nat → Ln) : PD := .list ((List.range n).map fun i => lnD (f i))
def SzF (f : Nat → Ln) : Prop := ∀ i, Sz 100 (f i).1 ∧ Sz 100 (f i).2
abbrev SzT (t : Rat) : Prop := Sz 300 t
theorem lnD_noL (l : Ln) : noL (lnD l) = true := rfl
theorem atI_map {α : Type} {n : Nat} {g : Nat → α} {i : Nat} (h : i < n) : atI ((List.range n).map g) (i : Int) = some (g i) := atI_nat (by rw [List.getElem?_map, List.getElem?_range h]; rfl)
theorem ev_line {n i : Nat} {f : Nat → Ln} (h : Ev K B ta G (linesD n f)) (h' : EvP K B tb G (.int (i : Int))) (hi : i < n) : Ev K B (tOp (rIxL K) ta tb) G (lnD (f i)) := ev_ixL h h' (atI_map hi)
theorem ev_st {l : Ln} (h : Ev K B te G (lnD l)) : Ev K B (tOp (rIxT K) te (tC (.int 0))) G (nm l.1) := ev_ixT h ev_int.p rfl
theorem ev_sl {l : Ln} (h : Ev K B te G (lnD l)) : Ev K B (tOp (rIxT K) te (tC (.int 1))) G (nm l.2) := ev_ixT h ev_int.p rfl
def SzL (l : Ln) : Prop := Sz 100 l.1 ∧ Sz 100 l.2
theorem place_sz {l : Ln} {t : Rat} (h : SzL l) (ht : Sz 600 t) : Sz 801 (place l t) := sz_mono (sz_add h.1 (sz_mul h.2 ht)) (by decide)
theorem meet_sz {l k : Ln} (h : SzL l) (h' : SzL k) (hn : l.2 ≠ k.2) : Sz 402 (meetT l k) := by
  have e : l.2 - k.2 ≠ 0 := by grind
  exact sz_mono (sz_quo (sz_sub h'.1 h.1) (sz_sub h.2 h'.2) e) (by decide)
def R_place_at (ds : List PD) (d : PD) : Prop := ∃ l t, SzL l ∧ Sz 600 t ∧ ds = [lnD l, nm t] ∧ d = nm (place l t)
abbrev s_place_at : Stmt := topS 15
theorem sc_place_at : FnScope ["line", "time"] ["line", "time"] (defScope s_place_at) := ⟨rfl, rfl, rfl, by decide +kernel, rfl, by decide +kernel, by decide +kernel⟩
theorem ok_place_at (D : Df K mg "place_at" s_place_at ["line", "time"]) (C_sum_of : Cal P w K mg base 3 "sum_of" ["a", "b"] (SpI K R_sum_of)) (C_product_of : Cal P w K mg base 3 "product_of" ["a", "b"] (SpI K R_product_of)) : Cal P w K mg base 4 "place_at" ["line", "time"] (SpI K R_place_at) := by
  refine Cal.ofI D sc_place_at (by decide) (fun ds d h => by obtain ⟨a, b, _, _, rfl, _⟩ := h; rfl) (fun f cdv A outer s H E hr ds d h => ?_)
  obtain ⟨l, t, hl, ht, rfl, rfl⟩ := h
  refine ⟨_, (pss_one (ps_ret (pe_cal C_sum_of (hr.mono (by omega)) (by rfl) (pa_cons (pe_ix (ix_tupK (K := K) rfl) (pv 0) pe_int (fun _ _ => rfl)) (pa_cons (pe_cal C_product_of (hr.mono (by omega)) (by rfl) (pa_cons (pe_ix (ix_tupK (K := K) rfl) (pv 0) pe_int (fun _ _ => rfl)) (pa_cons (pv 1) pa_nil))) pa_nil))))), ?_⟩
  exact s_ret (ev_sum_of (szb hl.1) (szb (sz_mul hl.2 ht)) (ev_st (ev_var rfl)).p (ev_product_of (szb hl.2) (szb ht) (ev_sl (ev_var rfl)).p (ev_var rfl).p).p) rfl
theorem ev_place_at {l : Ln} {t : Rat} (hl : SzL l) (ht : Sz 600 t) (h : EvP K B ta G (lnD l)) (h' : EvP K B tb G (nm t)) : Ev K B (tCall (SpI K R_place_at) [] E0 (tCons ta (tCons tb tNil))) G (nm (place l t)) := ev_call (eap_cons h (eap_cons h' eap_nil)) ⟨l, t, hl, ht, rfl, rfl⟩ rfl
def mtD (l k : Ln) : PD := if l.2 = k.2 then (if l.1 = k.1 then .tuple [.str "always"] else .tuple [.str "never"]) else .tuple [.str "at", nm (meetT l k)]
theorem mtD_noL (l k : Ln) : noL (mtD l k) = true := by
  unfold mtD; split
  · split <;> rfl
  · rfl
def R_meeting (ds : List PD) (d : PD) : Prop := ∃ l k, SzL l ∧ SzL k ∧ ds = [lnD l, lnD k] ∧ d = mtD l k
abbrev s_meeting : Stmt := topS 16
theorem sc_meeting : FnScope ["one", "other"] ["one", "other"] (defScope s_meeting) := ⟨rfl, rfl, rfl, by decide +kernel, rfl, by decide +kernel, by decide +kernel⟩
theorem ok_meeting (D : Df K mg "meeting" s_meeting ["one", "other"]) (C_quotient_of : Cal P w K mg base 3 "quotient_of" ["a", "b"] (SpI K R_quotient_of)) (C_difference_of : Cal P w K mg base 3 "difference_of" ["a", "b"] (SpI K R_difference_of)) : Cal P w K mg base 4 "meeting" ["one", "other"] (SpI K R_meeting) := by
  refine Cal.ofI D sc_meeting (by decide) (fun ds d h => by obtain ⟨a, b, _, _, rfl, _⟩ := h; rfl) (fun f cdv A outer s H E hr ds d h => ?_)
  obtain ⟨l, k, hl, hk, rfl, rfl⟩ := h
  refine ⟨_, (pss_cons (ps_if (pt_cmpR (op_neD hr.units) (pe_ix (ix_tupK (K := K) rfl) (pv 0) pe_int (fun _ _ => rfl)) (pe_ix (ix_tupK (K := K) rfl) (pv 1) pe_int (fun _ _ => rfl)) (nomark _)) (pss_one (ps_ret (pe_tup (pa_cons pe_str (pa_cons (pe_cal C_quotient_of (hr.mono (by omega)) (by rfl) (pa_cons (pe_cal C_difference_of (hr.mono (by omega)) (by rfl) (pa_cons (pe_ix (ix_tupK (K := K) rfl) (pv 1) pe_int (fun _ _ => rfl)) (pa_cons (pe_ix (ix_tupK (K := K) rfl) (pv 0) pe_int (fun _ _ => rfl)) pa_nil))) (pa_cons (pe_cal C_difference_of (hr.mono (by omega)) (by rfl) (pa_cons (pe_ix (ix_tupK (K := K) rfl) (pv 0) pe_int (fun _ _ => rfl)) (pa_cons (pe_ix (ix_tupK (K := K) rfl) (pv 1) pe_int (fun _ _ => rfl)) pa_nil))) pa_nil))) pa_nil))))) pss_nil)
      (pss_cons (ps_if (pt_cmpR (op_neD hr.units) (pe_ix (ix_tupK (K := K) rfl) (pv 0) pe_int (fun _ _ => rfl)) (pe_ix (ix_tupK (K := K) rfl) (pv 1) pe_int (fun _ _ => rfl)) (nomark _)) (pss_one (ps_ret (pe_tup (pa_cons pe_str pa_nil)))) pss_nil)
      (pss_one (ps_ret (pe_tup (pa_cons pe_str pa_nil)))))), ?_⟩
  refine s_seq (s_if (et_test (ev_ne_nm (ev_sl (ev_var rfl)).p (ev_sl (ev_var rfl)).p)) (fun hb => ?_) (fun hb => s_next (s_seq (s_if (et_test (ev_ne_nm (ev_st (ev_var rfl)).p (ev_st (ev_var rfl)).p)) (fun hc => ?_) (fun hc => s_next ?_)))))
  · have hn : ¬ l.2 = k.2 := by simpa using hb
    have e : l.2 - k.2 ≠ 0 := by grind
    refine s_ret (ev_tup (ea_cons ev_str (ea_cons (ev_quotient_of (szb (sz_sub hk.1 hl.1)) (szb (sz_sub hl.2 hk.2)) e (ev_difference_of (szb hk.1) (szb hl.1) (ev_st (ev_var rfl)).p (ev_st (ev_var rfl)).p).p (ev_difference_of (szb hl.2) (szb hk.2) (ev_sl (ev_var rfl)).p (ev_sl (ev_var rfl)).p).p) ea_nil))) ?_
    unfold mtD
    rw [if_neg hn]; rfl
  · have hn : l.2 = k.2 := by simpa using hb
    have hm : ¬ l.1 = k.1 := by simpa using hc
    refine s_ret (ev_tup (ea_cons ev_str ea_nil)) ?_
    unfold mtD
    rw [if_pos hn, if_neg hm]
  · have hn : l.2 = k.2 := by simpa using hb
    have hm : l.1 = k.1 := by simpa using hc
    refine s_ret (ev_tup (ea_cons ev_str ea_nil)) ?_
    unfold mtD
    rw [if_pos hn, if_pos hm]
theorem ev_meeting {l k : Ln} (hl : SzL l) (hk : SzL k) (h : EvP K B ta G (lnD l)) (h' : EvP K B tb G (lnD k)) : Ev K B (tCall (SpI K R_meeting) [] E0 (tCons ta (tCons tb tNil))) G (mtD l k) := ev_call (eap_cons h (eap_cons h' eap_nil)) ⟨l, k, hl, hk, rfl, rfl⟩ (mtD_noL l k)
/-- meeting(..)[1] of lines of unlike slopes -/
theorem ev_meet1 {l k : Ln} (hn : l.2 ≠ k.2) (h : Ev K B te G (mtD l k)) : Ev K B (tOp (rIxT K) te (tC (.int 1))) G (nm (meetT l k)) := by
  have e : mtD l k = .tuple [.str "at", nm (meetT l k)] := by unfold mtD; rw [if_neg hn]
  rw [e] at h
  exact ev_ixT h ev_int.p rfl
theorem str_shaped {s : Str} (h : PyData.strOk s = true) : SeqAt.shaped (.str s) = true := by
  show (PyData.canLay0 (.str s) && decide (PyData.depth (.str s) ≤ 64)) = true
  simp [PyData.canLay0, PyData.depth, h]
theorem str_eqv (a b : Str) : PyData.eqv (.str a) (.str b) = (a == b) := by simp only [PyData.eqv]
theorem sok_at : PyData.strOk "at" = true := by decide +kernel
theorem sok_never : PyData.strOk "never" = true := by decide +kernel
theorem sok_always : PyData.strOk "always" = true := by decide +kernel
/-- met[0] != "at" -/
theorem ev_meet0 {l k : Ln} {s : Str} (hs : s = "at") (h : Ev K B te G (mtD l k)) : Ev K B (tOp (rNeD K) (tOp (rIxT K) te (tC (.int 0))) (tC (.str s))) G (.bool (decide (l.2 = k.2))) := by
  subst hs
  unfold mtD at h
  by_cases c : l.2 = k.2
  · rw [if_pos c] at h
    rw [decide_eq_true c]
    by_cases c2 : l.1 = k.1
    · rw [if_pos c2] at h
      exact (ev_op (ev_ixT (d := .str "always") h ev_int.p rfl).p ev_str.p (op_ne' (str_shaped sok_always) (str_shaped sok_at))).is (by rw [str_eqv]; exact congrArg PyData.bool (by decide +kernel))
    · rw [if_neg c2] at h
      exact (ev_op (ev_ixT (d := .str "never") h ev_int.p rfl).p ev_str.p (op_ne' (str_shaped sok_never) (str_shaped sok_at))).is (by rw [str_eqv]; exact congrArg PyData.bool (by decide +kernel))
  · rw [if_neg c] at h
    rw [decide_eq_false c]
    exact (ev_op (ev_ixT (d := .str "at") h ev_int.p rfl).p ev_str.p (op_ne' (str_shaped sok_at) (str_shaped sok_at))).is (by rw [str_eqv]; exact congrArg PyData.bool (by decide +kernel))
end
end PF

-- P7
set_option linter.all false
set_option maxRecDepth 100000
set_option maxHeartbeats 2000000
namespace PF
open PySem PySem.Spec PyProof.Rows L2 LT
/-! ### who is ahead, next changes, orders -/
def optD : Option Rat → PD
  | none => .none
  | some q => nm q
theorem optD_noL (o : Option Rat) : noL (optD o) = true := by cases o <;> rfl
def natsD (l : List Nat) : List PD := l.map fun (x : Nat) => .int (x : Int)
theorem natsD_noL (l : List Nat) : noL.noLs (natsD l) = true := noLs_iff.mpr fun d hd => by
  obtain ⟨x, _, rfl⟩ := List.mem_map.mp hd
  rfl
theorem natsD_at {l : List Nat} {k : Nat} (h : k < l.length) : (natsD l)[k]? = some (.int (l.getD k 0 : Nat)) := by
  unfold natsD
  rw [List.getElem?_map, List.getElem?_eq_getElem h, getD_eq h]
  rfl
theorem natsD_len (l : List Nat) : (natsD l).length = l.length := List.length_map _
/-- canonical data of a depth -/
def Shp (k : Nat) (d : PD) : Prop := PyData.canLay0 d = true ∧ PyData.depth d ≤ k
theorem canAll {ds : List PD} : (∀ d ∈ ds, PyData.canLay0 d = true) → PyData.canLayAll0 ds = true := by
  induction ds with
  | nil => intro _; rfl
  | cons d ds ih => intro h; simp [PyData.canLayAll0, h d List.mem_cons_self, ih fun e he => h e (List.mem_cons_of_mem _ he)]
theorem depAll {k : Nat} {ds : List PD} : (∀ d ∈ ds, PyData.depth d ≤ k) → PyData.depthAll ds ≤ k := by
  induction ds with
  | nil => intro _; simp [PyData.depthAll]
  | cons d ds ih =>
    intro h
    have h1 := h d List.mem_cons_self
    have h2 := ih fun e he => h e (List.mem_cons_of_mem _ he)
    simp only [PyData.depthAll]
    omega
theorem Shp.sh {k : Nat} {d : PD} (h : Shp k d) (hk : k ≤ 64 := by decide) : SeqAt.shaped d = true := by
  show (PyData.canLay0 d && decide (PyData.depth d ≤ 64)) = true
  rw [h.1, decide_eq_true (Nat.le_trans h.2 hk)]; rfl
theorem shp_mono {k m : Nat} {d : PD} (h : Shp k d) (hm : k ≤ m) : Shp m d := ⟨h.1, Nat.le_trans h.2 hm⟩
theorem shp_tup {k : Nat} {ds : List PD} (h : ∀ d ∈ ds, Shp k d) : Shp (k + 1) (.tuple ds) := ⟨by simp only [PyData.canLay0]; exact canAll fun d hd => (h d hd).1, by simp only [PyData.depth]; exact Nat.succ_le_succ (depAll fun d hd => (h d hd).2)⟩
theorem shp_lst {k : Nat} {ds : List PD} (h : ∀ d ∈ ds, Shp k d) : Shp (k + 1) (.list ds) := ⟨by simp only [PyData.canLay0]; exact canAll fun d hd => (h d hd).1, by simp only [PyData.depth]; exact Nat.succ_le_succ (depAll fun d hd => (h d hd).2)⟩
theorem shp_int (i : Int) : Shp 0 (.int i) := ⟨by simp only [PyData.canLay0], by simp [PyData.depth]⟩
theorem shp_non : Shp 0 .none := ⟨by simp only [PyData.canLay0], by simp [PyData.depth]⟩
theorem shp_nm (q : Rat) : Shp 1 (nm q) := shp_tup fun d hd => by
  rcases List.mem_cons.mp hd with rfl | hd
  · exact shp_int _
  · rcases List.mem_cons.mp hd with rfl | hd
    · exact shp_int _
    · cases hd
theorem shp_opt (o : Option Rat) : Shp 1 (optD o) := by
  cases o with
  | none => exact shp_mono shp_non (by decide)
  | some q => exact shp_nm q
theorem shp_pair {k : Nat} {a b : PD} (ha : Shp k a) (hb : Shp k b) : Shp (k + 1) (.tuple [a, b]) := shp_tup fun d hd => by
  rcases List.mem_cons.mp hd with rfl | hd
  · exact ha
  · rcases List.mem_cons.mp hd with rfl | hd
    · exact hb
    · cases hd
theorem shp_trip {k : Nat} {a b c : PD} (ha : Shp k a) (hb : Shp k b) (hc : Shp k c) : Shp (k + 1) (.tuple [a, b, c]) := shp_tup fun d hd => by
  rcases List.mem_cons.mp hd with rfl | hd
  · exact ha
  · rcases List.mem_cons.mp hd with rfl | hd
    · exact hb
    · rcases List.mem_cons.mp hd with rfl | hd
      · exact hc
      · cases hd
theorem shp_lines (n : Nat) (f : Nat → Ln) : Shp 3 (linesD n f) := shp_lst fun d hd => by
  obtain ⟨i, _, rfl⟩ := List.mem_map.mp hd
  exact shp_pair (shp_nm _) (shp_nm _)
section
variable {P : Program} {w : World} {K : PySem.W.Frag} {mg : Str → Option Value} {base : Heap} {B : Hp} {G : List Sl} {te ta tb tt td : TE}
theorem ev_same_eq {d : PD} {k : Nat} (hs : Shp k d) (hk : k ≤ 64 := by decide) (h : EvP K B ta G d) (h' : EvP K B tb G d) : Ev K B (tOp (rEqD K) ta tb) G (.bool true) := (ev_op h h' (op_eq' (hs.sh hk) (hs.sh hk))).is (by rw [SeqAt.eqv_refl d hs.1])
theorem ev_same_ne {d : PD} {k : Nat} (hs : Shp k d) (hk : k ≤ 64 := by decide) (h : EvP K B ta G d) (h' : EvP K B tb G d) : Ev K B (tOp (rNeD K) ta tb) G (.bool false) := (ev_op h h' (op_ne' (hs.sh hk) (hs.sh hk))).is (by rw [SeqAt.eqv_refl d hs.1]; rfl)
theorem eqv_nil (ds : List PD) : PyData.eqv (.list ds) (.list []) = decide (ds = []) := by
  cases ds with
  | nil => simp [PyData.eqv, PyData.eqvAll]
  | cons d ds => simp [PyData.eqv, PyData.eqvAll]
theorem shp_nil : Shp 1 (.list []) := shp_lst fun d hd => nomatch hd
theorem ev_eq_nil {ds : List PD} {k : Nat} (hs : Shp k (.list ds)) (hk : k ≤ 64 := by decide) (h : EvP K B ta G (.list ds)) (h' : EvP K B tb G (.list [])) : Ev K B (tOp (rEqD K) ta tb) G (.bool (decide (ds = []))) := (ev_op h h' (op_eq' (hs.sh hk) shp_nil.sh)).is (by rw [eqv_nil])
theorem ev_ne_nil {ds : List PD} {k : Nat} (hs : Shp k (.list ds)) (hk : k ≤ 64 := by decide) (h : EvP K B ta G (.list ds)) (h' : EvP K B tb G (.list [])) : Ev K B (tOp (rNeD K) ta tb) G (.bool (!decide (ds = []))) := (ev_op h h' (op_ne' (hs.sh hk) shp_nil.sh)).is (by rw [eqv_nil])
theorem nat_lt {i j : Nat} : decide ((i : Int) < (j : Int)) = decide (i < j) := by
  rw [decide_eq_decide]; omega
/-! is_ahead -/
def R_is_ahead (ds : List PD) (d : PD) : Prop := ∃ (n : Nat) (f : Nat → Ln) (i j : Nat) (t : Rat), SzF f ∧ Sz 600 t ∧ i < n ∧ j < n ∧ ds = [linesD n f, .int (i : Int), .int (j : Int), nm t] ∧ d = .bool (ahead f i j t)
abbrev s_is_ahead : Stmt := topS 17
theorem sc_is_ahead : FnScope ["lines", "one", "other", "time", "here", "there"] ["lines", "one", "other", "time"] (defScope s_is_ahead) := ⟨rfl, rfl, rfl, by decide +kernel, rfl, by decide +kernel, by decide +kernel⟩
theorem ok_is_ahead (D : Df K mg "is_ahead" s_is_ahead ["lines", "one", "other", "time"]) (C_place_at : Cal P w K mg base 4 "place_at" ["line", "time"] (SpI K R_place_at)) (C_is_less : Cal P w K mg base 1 "is_less" ["a", "b"] (SpI K R_is_less)) :
    Cal P w K mg base 5 "is_ahead" ["lines", "one", "other", "time"] (SpI K R_is_ahead) := by
  refine Cal.ofI D sc_is_ahead (by decide) (fun ds d h => by obtain ⟨n, f, i, j, t, _, _, _, _, rfl, _⟩ := h; rfl) (fun f cdv A outer s H E hr ds d h => ?_)
  obtain ⟨n, f, i, j, t, hf, ht, hi, hj, rfl, rfl⟩ := h
  refine ⟨_, (pss_cons (ps_set (i := 4) sc_is_ahead.nd rfl (.inl rfl) (pe_cal C_place_at (hr.mono (by omega)) (by rfl) (pa_cons (pe_ix (ix_listK (K := K) rfl) (pv 0) (pv 1) (fun _ _ => rfl)) (pa_cons (pv 3) pa_nil))))
      (pss_cons (ps_set (i := 5) sc_is_ahead.nd rfl (.inl rfl) (pe_cal C_place_at (hr.mono (by omega)) (by rfl) (pa_cons (pe_ix (ix_listK (K := K) rfl) (pv 0) (pv 2) (fun _ _ => rfl)) (pa_cons (pv 3) pa_nil))))
      (pss_cons (ps_if (pt_cmpR (op_neD hr.units) (pv 4) (pv 5) (nomark _)) (pss_one (ps_ret (pe_cal C_is_less (hr.mono (by omega)) (by rfl) (pa_cons (pv 5) (pa_cons (pv 4) pa_nil))))) pss_nil)
      (pss_cons (ps_if (pt_cmpR (op_neD hr.units) (pe_ix (ix_tupK (K := K) rfl) (pe_ix (ix_listK (K := K) rfl) (pv 0) (pv 1) (fun _ _ => rfl)) pe_int (fun _ _ => rfl)) (pe_ix (ix_tupK (K := K) rfl) (pe_ix (ix_listK (K := K) rfl) (pv 0) (pv 2) (fun _ _ => rfl)) pe_int (fun _ _ => rfl)) (nomark _)) (pss_one (ps_ret (pe_cal C_is_less (hr.mono (by omega)) (by rfl) (pa_cons (pe_ix (ix_tupK (K := K) rfl) (pe_ix (ix_listK (K := K) rfl) (pv 0) (pv 2) (fun _ _ => rfl)) pe_int (fun _ _ => rfl)) (pa_cons (pe_ix (ix_tupK (K := K) rfl) (pe_ix (ix_listK (K := K) rfl) (pv 0) (pv 1) (fun _ _ => rfl)) pe_int (fun _ _ => rfl)) pa_nil))))) pss_nil)
      (pss_one (ps_ret (pe_cmpR op_lt (pv 1) (pv 2) (nomark _)))))))), ?_⟩
  have s1 := szb (place_sz (hf i) ht)
  have s2 := szb (place_sz (hf j) ht)
  refine s_seq (s_set (ev_place_at (hf i) ht (ev_line (ev_var rfl) (ev_var rfl).p hi).p (ev_var rfl).p) (s_seq (s_set (ev_place_at (hf j) ht (ev_line (ev_var rfl) (ev_var rfl).p hj).p (ev_var rfl).p)
    (s_seq (s_if (et_test (ev_ne_nm (ev_var rfl).p (ev_var rfl).p)) (fun hb => ?_) (fun hb => s_next (s_seq (s_if (et_test (ev_ne_nm (ev_sl (ev_line (ev_var rfl) (ev_var rfl).p hi)).p (ev_sl (ev_line (ev_var rfl) (ev_var rfl).p hj)).p)) (fun hc => ?_) (fun hc => s_next ?_)))))))))
  · have hn : ¬ place (f i) t = place (f j) t := by simpa using hb
    refine s_ret (ev_is_less s2 s1 (ev_var rfl).p (ev_var rfl).p) ?_
    unfold ahead; rw [if_neg hn]
  · have hn : place (f i) t = place (f j) t := by simpa using hb
    have hm : ¬ (f i).2 = (f j).2 := by simpa using hc
    refine s_ret (ev_is_less (szb (hf j).2) (szb (hf i).2) (ev_sl (ev_line (ev_var rfl) (ev_var rfl).p hj)).p (ev_sl (ev_line (ev_var rfl) (ev_var rfl).p hi)).p) ?_
    unfold ahead; rw [if_pos hn, if_neg hm]
  · have hn : place (f i) t = place (f j) t := by simpa using hb
    have hm : (f i).2 = (f j).2 := by simpa using hc
    refine s_ret (ev_op (ev_var rfl).p (ev_var rfl).p op_ib) ?_
    unfold ahead; rw [if_pos hn, if_pos hm, nat_lt]
theorem ev_is_ahead {n : Nat} {f : Nat → Ln} {i j : Nat} {t : Rat} (hf : SzF f) (ht : Sz 600 t) (hi : i < n) (hj : j < n) (h1 : EvP K B ta G (linesD n f)) (h2 : EvP K B tb G (.int (i : Int))) (h3 : EvP K B tt G (.int (j : Int))) (h4 : EvP K B td G (nm t)) :
    Ev K B (tCall (SpI K R_is_ahead) [] E0 (tCons ta (tCons tb (tCons tt (tCons td tNil))))) G (.bool (ahead f i j t)) := ev_call (eap_cons h1 (eap_cons h2 (eap_cons h3 (eap_cons h4 eap_nil)))) ⟨n, f, i, j, t, hf, ht, hi, hj, rfl, rfl⟩ rfl
/-! next_change -/
def R_next_change (ds : List PD) (d : PD) : Prop := ∃ (n : Nat) (f : Nat → Ln) (i j : Nat) (t : Rat), SzF f ∧ Sz 600 t ∧ i < n ∧ j < n ∧ ds = [linesD n f, .int (i : Int), .int (j : Int), nm t] ∧ d = optD (nextC f i j t)
abbrev s_next_change : Stmt := topS 18
theorem sc_next_change : FnScope ["lines", "one", "other", "time", "met"] ["lines", "one", "other", "time"] (defScope s_next_change) := ⟨rfl, rfl, rfl, by decide +kernel, rfl, by decide +kernel, by decide +kernel⟩
theorem ok_next_change (D : Df K mg "next_change" s_next_change ["lines", "one", "other", "time"]) (C_meeting : Cal P w K mg base 4 "meeting" ["one", "other"] (SpI K R_meeting)) (C_is_less : Cal P w K mg base 1 "is_less" ["a", "b"] (SpI K R_is_less)) :
    Cal P w K mg base 5 "next_change" ["lines", "one", "other", "time"] (SpI K R_next_change) := by
  refine Cal.ofI D sc_next_change (by decide) (fun ds d h => by obtain ⟨n, f, i, j, t, _, _, _, _, rfl, _⟩ := h; rfl) (fun f cdv A outer s H E hr ds d h => ?_)
  obtain ⟨n, f, i, j, t, hf, ht, hi, hj, rfl, rfl⟩ := h
  refine ⟨_, (pss_cons (ps_set (i := 4) sc_next_change.nd rfl (.inl rfl) (pe_cal C_meeting (hr.mono (by omega)) (by rfl) (pa_cons (pe_ix (ix_listK (K := K) rfl) (pv 0) (pv 1) (fun _ _ => rfl)) (pa_cons (pe_ix (ix_listK (K := K) rfl) (pv 0) (pv 2) (fun _ _ => rfl)) pa_nil))))
      (pss_cons (ps_if (PW.pt (pw_or (pt_cmpR (op_neD hr.units) (pe_ix (ix_tupK (K := K) rfl) (pv 4) pe_int (fun _ _ => rfl)) pe_str (nomark _)) (pw_or1 (pt_not (pt_val (pe_cal C_is_less (hr.mono (by omega)) (by rfl) (pa_cons (pv 3) (pa_cons (pe_ix (ix_tupK (K := K) rfl) (pv 4) pe_int (fun _ _ => rfl)) pa_nil)))))))) (pss_one (ps_ret pe_non)) pss_nil)
      (pss_one (ps_ret (pe_ix (ix_tupK (K := K) rfl) (pv 4) pe_int (fun _ _ => rfl)))))), ?_⟩
  refine s_seq (s_set (ev_meeting (hf i) (hf j) (ev_line (ev_var rfl) (ev_var rfl).p hi).p (ev_line (ev_var rfl) (ev_var rfl).p hj).p) ?_)
  by_cases c : (f i).2 = (f j).2
  · refine s_seq (s_if (b := true) ((et_or (b := false) (et_test (ev_meet0 rfl (ev_var rfl))) (fun z => absurd c (of_decide_eq_false z))).is (by rw [decide_eq_true c]; rfl)) (fun _ => s_ret ev_non ?_) (fun z => nomatch z))
    unfold nextC; rw [if_neg (fun z => z.1 c)]; rfl
  · have hm := szb (meet_sz (hf i) (hf j) c)
    refine s_seq (s_if (et_or (et_test (ev_meet0 rfl (ev_var rfl))) (fun _ => et_not (et_B (ev_is_less (szb ht) hm (ev_var rfl).p (ev_meet1 c (ev_var rfl)).p)))) (fun hb => s_ret ev_non ?_) (fun hb => s_next (s_ret (ev_meet1 c (ev_var rfl)) ?_)))
    · have : ¬ t < meetT (f i) (f j) := by simpa [c] using hb
      unfold nextC; rw [if_neg (fun z => this z.2)]; rfl
    · have : t < meetT (f i) (f j) := by simpa [c] using hb
      unfold nextC; rw [if_pos ⟨c, this⟩]; rfl
theorem ev_next_change {n : Nat} {f : Nat → Ln} {i j : Nat} {t : Rat} (hf : SzF f) (ht : Sz 600 t) (hi : i < n) (hj : j < n) (h1 : EvP K B ta G (linesD n f)) (h2 : EvP K B tb G (.int (i : Int))) (h3 : EvP K B tt G (.int (j : Int))) (h4 : EvP K B td G (nm t)) :
    Ev K B (tCall (SpI K R_next_change) [] E0 (tCons ta (tCons tb (tCons tt (tCons td tNil))))) G (optD (nextC f i j t)) := ev_call (eap_cons h1 (eap_cons h2 (eap_cons h3 (eap_cons h4 eap_nil)))) ⟨n, f, i, j, t, hf, ht, hi, hj, rfl, rfl⟩ (optD_noL _)
/-! till_of -/
def R_till_of (ds : List PD) (d : PD) : Prop := ∃ (n : Nat) (f : Nat → Ln) (i j : Nat) (t : Rat), SzF f ∧ Sz 600 t ∧ i < n ∧ j < n ∧ ds = [linesD n f, .int (i : Int), .int (j : Int), nm t] ∧ d = optD (till f i j t)
abbrev s_till_of : Stmt := topS 53
theorem sc_till_of : FnScope ["lines", "one", "other", "time"] ["lines", "one", "other", "time"] (defScope s_till_of) := ⟨rfl, rfl, rfl, by decide +kernel, rfl, by decide +kernel, by decide +kernel⟩
theorem ok_till_of (D : Df K mg "till_of" s_till_of ["lines", "one", "other", "time"]) (C_is_ahead : Cal P w K mg base 5 "is_ahead" ["lines", "one", "other", "time"] (SpI K R_is_ahead)) (C_next_change : Cal P w K mg base 5 "next_change" ["lines", "one", "other", "time"] (SpI K R_next_change)) :
    Cal P w K mg base 6 "till_of" ["lines", "one", "other", "time"] (SpI K R_till_of) := by
  refine Cal.ofI D sc_till_of (by decide) (fun ds d h => by obtain ⟨n, f, i, j, t, _, _, _, _, rfl, _⟩ := h; rfl) (fun f cdv A outer s H E hr ds d h => ?_)
  obtain ⟨n, f, i, j, t, hf, ht, hi, hj, rfl, rfl⟩ := h
  refine ⟨_, (pss_cons (ps_if (pt_val (pe_cal C_is_ahead (hr.mono (by omega)) (by rfl) (pa_cons (pv 0) (pa_cons (pv 2) (pa_cons (pv 1) (pa_cons (pv 3) pa_nil)))))) (pss_one (ps_ret (pv 3))) pss_nil)
      (pss_one (ps_ret (pe_cal C_next_change (hr.mono (by omega)) (by rfl) (pa_cons (pv 0) (pa_cons (pv 1) (pa_cons (pv 2) (pa_cons (pv 3) pa_nil)))))))), ?_⟩
  refine s_seq (s_if (et_B (ev_is_ahead hf ht hj hi (ev_var rfl).p (ev_var rfl).p (ev_var rfl).p (ev_var rfl).p)) (fun hb => s_ret (ev_var rfl) ?_) (fun hb => s_next (s_ret (ev_next_change hf ht hi hj (ev_var rfl).p (ev_var rfl).p (ev_var rfl).p (ev_var rfl).p) ?_)))
  · unfold till; rw [if_pos hb]; rfl
  · unfold till; rw [if_neg (by rw [hb]; exact Bool.false_ne_true)]
theorem ev_till_of {n : Nat} {f : Nat → Ln} {i j : Nat} {t : Rat} (hf : SzF f) (ht : Sz 600 t) (hi : i < n) (hj : j < n) (h1 : EvP K B ta G (linesD n f)) (h2 : EvP K B tb G (.int (i : Int))) (h3 : EvP K B tt G (.int (j : Int))) (h4 : EvP K B td G (nm t)) :
    Ev K B (tCall (SpI K R_till_of) [] E0 (tCons ta (tCons tb (tCons tt (tCons td tNil))))) G (optD (till f i j t)) := ev_call (eap_cons h1 (eap_cons h2 (eap_cons h3 (eap_cons h4 eap_nil)))) ⟨n, f, i, j, t, hf, ht, hi, hj, rfl, rfl⟩ (optD_noL _)
/-! passing_time -/
def passD (l k : Ln) : Option Rat := if l.2 < k.2 then some (meetT l k) else none
def R_passing_time (ds : List PD) (d : PD) : Prop := ∃ l k, SzL l ∧ SzL k ∧ ds = [lnD l, lnD k] ∧ d = optD (passD l k)
abbrev s_passing_time : Stmt := topS 22
theorem sc_passing_time : FnScope ["one", "other", "told"] ["one", "other"] (defScope s_passing_time) := ⟨rfl, rfl, rfl, by decide +kernel, rfl, by decide +kernel, by decide +kernel⟩
theorem ok_passing_time (D : Df K mg "passing_time" s_passing_time ["one", "other"]) (C_meeting : Cal P w K mg base 4 "meeting" ["one", "other"] (SpI K R_meeting)) (C_is_less : Cal P w K mg base 1 "is_less" ["a", "b"] (SpI K R_is_less)) :
    Cal P w K mg base 5 "passing_time" ["one", "other"] (SpI K R_passing_time) := by
  refine Cal.ofI D sc_passing_time (by decide) (fun ds d h => by obtain ⟨l, k, _, _, rfl, _⟩ := h; rfl) (fun f cdv A outer s H E hr ds d h => ?_)
  obtain ⟨l, k, hl, hk, rfl, rfl⟩ := h
  refine ⟨_, (pss_cons (ps_set (i := 2) sc_passing_time.nd rfl (.inl rfl) (pe_cal C_meeting (hr.mono (by omega)) (by rfl) (pa_cons (pv 0) (pa_cons (pv 1) pa_nil))))
      (pss_cons (ps_if (PW.pt (pw_or (pt_cmpR (op_neD hr.units) (pe_ix (ix_tupK (K := K) rfl) (pv 2) pe_int (fun _ _ => rfl)) pe_str (nomark _)) (pw_or1 (pt_not (pt_val (pe_cal C_is_less (hr.mono (by omega)) (by rfl) (pa_cons (pe_ix (ix_tupK (K := K) rfl) (pv 0) pe_int (fun _ _ => rfl)) (pa_cons (pe_ix (ix_tupK (K := K) rfl) (pv 1) pe_int (fun _ _ => rfl)) pa_nil)))))))) (pss_one (ps_ret pe_non)) pss_nil)
      (pss_one (ps_ret (pe_ix (ix_tupK (K := K) rfl) (pv 2) pe_int (fun _ _ => rfl)))))), ?_⟩
  refine s_seq (s_set (ev_meeting hl hk (ev_var rfl).p (ev_var rfl).p) ?_)
  by_cases c : l.2 = k.2
  · refine s_seq (s_if (b := true) ((et_or (b := false) (et_test (ev_meet0 rfl (ev_var rfl))) (fun z => absurd c (of_decide_eq_false z))).is (by rw [decide_eq_true c]; rfl)) (fun _ => s_ret ev_non ?_) (fun z => nomatch z))
    unfold passD; rw [if_neg (by rw [c]; exact Rat.lt_irrefl)]; rfl
  · refine s_seq (s_if (et_or (et_test (ev_meet0 rfl (ev_var rfl))) (fun _ => et_not (et_B (ev_is_less (szb hl.2) (szb hk.2) (ev_sl (ev_var rfl)).p (ev_sl (ev_var rfl)).p)))) (fun hb => s_ret ev_non ?_) (fun hb => s_next (s_ret (ev_meet1 c (ev_var rfl)) ?_)))
    · have : ¬ l.2 < k.2 := by simpa [c] using hb
      unfold passD; rw [if_neg this]; rfl
    · have : l.2 < k.2 := by simpa [c] using hb
      unfold passD; rw [if_pos this]; rfl
theorem ev_passing_time {l k : Ln} (hl : SzL l) (hk : SzL k) (h : EvP K B ta G (lnD l)) (h' : EvP K B tb G (lnD k)) : Ev K B (tCall (SpI K R_passing_time) [] E0 (tCons ta (tCons tb tNil))) G (optD (passD l k)) := ev_call (eap_cons h (eap_cons h' eap_nil)) ⟨l, k, hl, hk, rfl, rfl⟩ (optD_noL _)
/-! order_at -/
theorem ev_lenL {n : Nat} {f : Nat → Ln} (h : EvP K B te G (linesD n f)) : Ev K B (tCB (fun xs H Q => ∃ p ys, xs = [.ref p] ∧ (SqL K H p ys ∨ SqT K H p ys) ∧ Q (.int ys.length) H) (tCons te tNil)) G (.int (n : Int)) := (ev_len h).is (by simp)
theorem small_sz {n : Nat} (h : n ≤ 1000) : n < sizeLine := Nat.lt_of_le_of_lt h (by decide)
def R_order_at (ds : List PD) (es : List PD) : Prop := ∃ (n : Nat) (f : Nat → Ln) (t : Rat), SzF f ∧ Sz 600 t ∧ n ≤ 100 ∧ ds = [linesD n f, nm t] ∧ es = natsD (order n f t)
abbrev s_order_at : Stmt := topS 20
theorem sc_order_at : FnScope ["lines", "time", "found", "runner", "at"] ["lines", "time"] (defScope s_order_at) := ⟨rfl, rfl, rfl, by decide +kernel, rfl, by decide +kernel, by decide +kernel⟩
theorem fold_len (f : Nat → Ln) (t : Rat) (i : Nat) : ((List.range i).foldl (ins f t) []).length = i := order_len i f t
theorem ok_order_at (D : Df K mg "order_at" s_order_at ["lines", "time"]) (T : Txt mg) (C_is_ahead : Cal P w K mg base 5 "is_ahead" ["lines", "one", "other", "time"] (SpI K R_is_ahead)) :
    Cal P w K mg base 6 "order_at" ["lines", "time"] (SpO K R_order_at) := by
  refine Cal.ofO D sc_order_at (by decide) (fun ds d h => by obtain ⟨n, f, t, _, _, _, rfl, _⟩ := h; rfl) (fun f cdv A outer s H E hr ds d h => ?_)
  obtain ⟨n, f, t, hf, ht, hn, rfl, rfl⟩ := h
  refine ⟨_, (pss_cons (ps_set (i := 2) sc_order_at.nd rfl (.inl rfl) (pe_lst pa_nil))
      (pss_cons (ps_for PassesOwn.never rfl (pi_range1 (by rfl) T.z_range (pa_cons (pe_callB call_len_seq (by rfl) T.z_len boot_len (pa_cons (pv 0) pa_nil)) pa_nil)) (pg_name (i := 3) sc_order_at.nd rfl (.inl rfl)) (pss_cons (ps_set (i := 4) sc_order_at.nd rfl (.inl rfl) (pe_callB call_len_seq (by rfl) T.z_len boot_len (pa_cons (pv 2) pa_nil)))
      (pss_cons (ps_while PassesOwn.never (PW.pt (pw_and (pt_cmpR op_gt (pv 4) pe_int (nomark _)) (pw_and1 (pt_val (pe_cal C_is_ahead (hr.mono (by omega)) (by rfl) (pa_cons (pv 0) (pa_cons (pv 3) (pa_cons (pe_ix (ix_listK (K := K) rfl) (pv 2) (pe_op op_sub (pv 4) pe_int) (fun _ _ => rfl)) (pa_cons (pv 1) pa_nil))))))))) (pss_one (ps_set (i := 4) sc_order_at.nd rfl (.inl rfl) (pe_op op_sub (pv 4) pe_int))))
      (pss_one (ps_expr (pe_bm PySem.F.plainAttrs_list PySem.F.slot_list_insert PySem.F.type_list_insert mt_insert (pv 2) (pa_cons (pv 4) (pa_cons (pv 3) pa_nil))))))))
      (pss_one (ps_ret (pv 2))))), ?_⟩
  refine s_seq (s_setO (eo_lst eap_nil) rfl (fun a _ => s_seqM (M := fun G => ∃ s3 s4, G = [.im (linesD n f), .im (nm t), .ow a (natsD (order n f t)), s3, s4])
    (s_forR1 (n := n) (eap_cons (ev_lenL (ev_var rfl).p).p eap_nil) (by omega) (fun i G => ∃ s3 s4, G = [.im (linesD n f), .im (nm t), .ow a (natsD ((List.range i).foldl (ins f t) [])), s3, s4]) ⟨_, _, rfl⟩ ?_ (fun G h => h)) ?_))
  · rintro i G hi ⟨s3, s4, rfl⟩
    have hlen := fold_len f t i
    have hmem : ∀ x ∈ (List.range i).foldl (ins f t) [], x < i := fun x hx => (order_mem (n := i) (f := f) (t := t)).mp hx
    have hdef : (List.range (i + 1)).foldl (ins f t) [] = ins f t ((List.range i).foldl (ins f t) []) i := by rw [List.range_succ, List.foldl_append]; rfl
    rw [hdef]
    generalize (List.range i).foldl (ins f t) [] = found at hlen hmem
    refine s_seq (s_set ((ev_len (ep_var rfl)).is (by rw [natsD_len])) (s_seqM (M := fun G => G = [.im (linesD n f), .im (nm t), .ow a (natsD found), .im (.int (i : Int)), .im (.int (pos f t i found found.length : Nat))])
      (s_while (fun m G => m ≤ found.length ∧ pos f t i found m = pos f t i found found.length ∧ G = [.im (linesD n f), .im (nm t), .ow a (natsD found), .im (.int (i : Int)), .im (.int (m : Nat))]) found.length ⟨Nat.le_refl _, rfl, rfl⟩ ?_) ?_))
    · rintro m G ⟨hm, hp, rfl⟩
      cases m with
      | zero => exact ⟨false, (et_and (b := false) (et_test (ev_op (ev_var rfl).p ev_int.p op_ib)) (fun z => absurd (of_decide_eq_true z) (by decide))).is rfl, fun z => (nomatch z), fun _ => by rw [← hp]; rfl⟩
      | succ m =>
        have hx : found.getD m 0 < i := hmem _ (by rw [getD_eq (by omega)]; exact List.getElem_mem _)
        have hix : atI (natsD found) (((m + 1 : Nat) : Int) - 1) = some (.int (found.getD m 0 : Nat)) := by
          rw [show ((m + 1 : Nat) : Int) - 1 = (m : Int) by omega]
          exact atI_nat (natsD_at (by omega))
        refine ⟨ahead f i (found.getD m 0) t, (et_and (et_test (ev_op (ev_var rfl).p ev_int.p op_ib)) (fun _ => et_B (ev_is_ahead hf ht hi (by omega) (ev_var rfl).p (ev_var rfl).p (ev_ixV rfl (ev_op (ev_var rfl).p ev_int.p op_i0).p hix).p (ev_var rfl).p))).is ?_, fun hb => ?_, fun hb => ?_⟩
        · have : decide ((0 : Int) < ((m + 1 : Nat) : Int)) = true := decide_eq_true (by omega)
          rw [this]; rfl
        · refine s_set (ev_op (ev_var rfl).p ev_int.p op_i0) ⟨m, by omega, by omega, ?_, ?_⟩
          · rw [← hp]; conv => rhs; unfold pos
            rw [if_pos hb]
          · rw [show ((m + 1 : Nat) : Int) - 1 = (m : Int) by omega]; rfl
        · rw [← hp]; unfold pos
          rw [if_neg (by rw [hb]; exact Bool.false_ne_true)]
    · rintro G rfl
      have hp := pos_le f t i found found.length
      refine s_ins rfl (ev_var rfl).p (ev_var rfl) (by rw [natsD_len]; exact small_sz (by omega)) (by omega) (by omega) ⟨.im (.int (i : Int)), .im (.int (pos f t i found found.length : Nat)), ?_⟩
      have e : natsD (ins f t found i) = (natsD found).take (pos f t i found found.length) ++ [.int (i : Int)] ++ (natsD found).drop (pos f t i found found.length) := by
        unfold ins natsD
        rw [List.map_append, List.map_append, List.map_take, List.map_drop]; rfl
      rw [e, Int.toNat_natCast]
      rfl
  · rintro G ⟨s3, s4, rfl⟩
    exact s_retV rfl rfl
theorem eo_order_at {n : Nat} {f : Nat → Ln} {t : Rat} (hf : SzF f) (ht : Sz 600 t) (hn : n ≤ 100) (h1 : EvP K B ta G (linesD n f)) (h2 : EvP K B tb G (nm t)) : EvO K B (tCall (SpO K R_order_at) [] E0 (tCons ta (tCons tb tNil))) G (natsD (order n f t)) := eo_call (eap_cons h1 (eap_cons h2 eap_nil)) ⟨n, f, t, hf, ht, hn, rfl, rfl⟩
end
end PF

-- P8
set_option linter.all false
set_option maxRecDepth 100000
set_option maxHeartbeats 2000000
namespace PF
open PySem PySem.Spec PyProof.Rows L2 LT
/-! ### leaders, front -/
def rowD (p : Nat × Option Rat) : PD := .tuple [.int (p.1 : Int), optD p.2]
theorem rowD_noL (p : Nat × Option Rat) : noL (rowD p) = true := by
  show noL.noLs [.int (p.1 : Int), optD p.2] = true
  simp [noL.noLs, noL, optD_noL]
theorem rows_noL (l : List (Nat × Option Rat)) : noL.noLs (l.map rowD) = true := noLs_iff.mpr fun d hd => by
  obtain ⟨x, _, rfl⟩ := List.mem_map.mp hd
  exact rowD_noL x
theorem nms_noL (l : List Rat) : noL.noLs (l.map nm) = true := noLs_iff.mpr fun d hd => by
  obtain ⟨x, _, rfl⟩ := List.mem_map.mp hd
  exact nm_noL x
theorem shp_nms (l : List Rat) : Shp 2 (.list (l.map nm)) := shp_lst fun d hd => by
  obtain ⟨x, _, rfl⟩ := List.mem_map.mp hd
  exact shp_nm x
theorem shp_rows (l : List (Nat × Option Rat)) : Shp 3 (.list (l.map rowD)) := shp_lst fun d hd => by
  obtain ⟨x, _, rfl⟩ := List.mem_map.mp hd
  exact shp_pair (shp_mono (shp_int _) (by decide)) (shp_opt _)
section
variable {P : Program} {w : World} {K : PySem.W.Frag} {mg : Str → Option Value} {base : Heap} {B : Hp} {G : List Sl} {te ta tb tt td : TE}
/-! ahead_of_all -/
def R_ahead_of_all (ds : List PD) (d : PD) : Prop := ∃ (n : Nat) (f : Nat → Ln) (t : Rat), SzF f ∧ Sz 600 t ∧ 0 < n ∧ n ≤ 100 ∧ ds = [linesD n f, nm t] ∧ d = .int (aheadAll n f t : Nat)
abbrev s_ahead_of_all : Stmt := topS 26
theorem sc_ahead_of_all : FnScope ["lines", "time", "found", "runner"] ["lines", "time"] (defScope s_ahead_of_all) := ⟨rfl, rfl, rfl, by decide +kernel, rfl, by decide +kernel, by decide +kernel⟩
theorem afold_le (f : Nat → Ln) (t : Rat) : ∀ k, (List.range k).foldl (fun found r => if ahead f (r + 1) found t then r + 1 else found) 0 ≤ k
  | 0 => Nat.le_refl _
  | k + 1 => by
    have ih := afold_le f t k
    rw [List.range_succ, List.foldl_append]
    simp only [List.foldl_cons, List.foldl_nil]
    split <;> omega
theorem ok_ahead_of_all (D : Df K mg "ahead_of_all" s_ahead_of_all ["lines", "time"]) (T : Txt mg) (C_is_ahead : Cal P w K mg base 5 "is_ahead" ["lines", "one", "other", "time"] (SpI K R_is_ahead)) :
    Cal P w K mg base 6 "ahead_of_all" ["lines", "time"] (SpI K R_ahead_of_all) := by
  refine Cal.ofI D sc_ahead_of_all (by decide) (fun ds d h => by obtain ⟨n, f, t, _, _, _, _, rfl, _⟩ := h; rfl) (fun f cdv A outer s H E hr ds d h => ?_)
  obtain ⟨n, f, t, hf, ht, h0, hn, rfl, rfl⟩ := h
  refine ⟨_, (pss_cons (ps_set (i := 2) sc_ahead_of_all.nd rfl (.inl rfl) pe_int)
      (pss_cons (ps_for PassesOwn.never rfl (pi_range2 (by rfl) T.z_range (pa_cons pe_int (pa_cons (pe_callB call_len_seq (by rfl) T.z_len boot_len (pa_cons (pv 0) pa_nil)) pa_nil))) (pg_name (i := 3) sc_ahead_of_all.nd rfl (.inl rfl)) (pss_one (ps_if (pt_val (pe_cal C_is_ahead (hr.mono (by omega)) (by rfl) (pa_cons (pv 0) (pa_cons (pv 3) (pa_cons (pv 2) (pa_cons (pv 1) pa_nil)))))) (pss_one (ps_set (i := 2) sc_ahead_of_all.nd rfl (.inl rfl) (pv 3))) pss_nil)))
      (pss_one (ps_ret (pv 2))))), ?_⟩
  refine s_seq (s_set ev_int (s_seqM (M := fun G => ∃ s3, G = [.im (linesD n f), .im (nm t), .im (.int (aheadAll n f t : Nat)), s3])
    (s_forR2 (lo := 1) (n := n - 1) (eap_cons ev_int.p (eap_cons ((ev_lenL (ev_var rfl).p).is (by congr 1; omega)).p eap_nil)) (by omega)
      (fun i G => ∃ s3, G = [.im (linesD n f), .im (nm t), .im (.int ((List.range i).foldl (fun found r => if ahead f (r + 1) found t then r + 1 else found) 0 : Nat)), s3]) ⟨_, rfl⟩ ?_ (fun G h => h)) ?_))
  · rintro i G hi ⟨s3, rfl⟩
    have hl := afold_le f t i
    rw [List.range_succ, List.foldl_append]
    simp only [List.foldl_cons, List.foldl_nil]
    generalize (List.range i).foldl (fun found r => if ahead f (r + 1) found t then r + 1 else found) 0 = q at *
    rw [show (1 : Int) + (i : Int) = ((i + 1 : Nat) : Int) by omega]
    refine s_if (et_B (ev_is_ahead hf ht (i := i + 1) (j := q) (by omega) (by omega) (ev_var rfl).p (ev_var rfl).p (ev_var rfl).p (ev_var rfl).p)) (fun hb => s_set (ev_var rfl) ?_) (fun hb => s_next ?_)
    · rw [if_pos hb]; exact ⟨_, rfl⟩
    · rw [if_neg (by rw [hb]; exact Bool.false_ne_true)]; exact ⟨_, rfl⟩
  · rintro G ⟨s3, rfl⟩
    exact s_ret (ev_var rfl) rfl
theorem ev_ahead_of_all {n : Nat} {f : Nat → Ln} {t : Rat} (hf : SzF f) (ht : Sz 600 t) (h0 : 0 < n) (hn : n ≤ 100) (h1 : EvP K B ta G (linesD n f)) (h2 : EvP K B tb G (nm t)) : Ev K B (tCall (SpI K R_ahead_of_all) [] E0 (tCons ta (tCons tb tNil))) G (.int (aheadAll n f t : Nat)) := ev_call (eap_cons h1 (eap_cons h2 eap_nil)) ⟨n, f, t, hf, ht, h0, hn, rfl, rfl⟩ rfl
/-! first_leader -/
def R_first_leader (ds : List PD) (d : PD) : Prop := ∃ (n : Nat) (f : Nat → Ln), SzF f ∧ 0 < n ∧ n ≤ 100 ∧ ds = [linesD n f] ∧ d = .int (firstL n f : Nat)
abbrev s_first_leader : Stmt := topS 27
theorem sc_first_leader : FnScope ["lines", "found", "runner", "one", "other"] ["lines"] (defScope s_first_leader) := ⟨rfl, rfl, rfl, by decide +kernel, rfl, by decide +kernel, by decide +kernel⟩
theorem bfold_le (f : Nat → Ln) : ∀ k, (List.range k).foldl (fun found r => if better f (r + 1) found then r + 1 else found) 0 ≤ k
  | 0 => Nat.le_refl _
  | k + 1 => by
    have ih := bfold_le f k
    rw [List.range_succ, List.foldl_append]
    simp only [List.foldl_cons, List.foldl_nil]
    split <;> omega
theorem ok_first_leader (D : Df K mg "first_leader" s_first_leader ["lines"]) (T : Txt mg) (C_is_less : Cal P w K mg base 1 "is_less" ["a", "b"] (SpI K R_is_less)) :
    Cal P w K mg base 2 "first_leader" ["lines"] (SpI K R_first_leader) := by
  refine Cal.ofI D sc_first_leader (by decide) (fun ds d h => by obtain ⟨n, f, _, _, _, rfl, _⟩ := h; rfl) (fun f cdv A outer s H E hr ds d h => ?_)
  obtain ⟨n, f, hf, h0, hn, rfl, rfl⟩ := h
  refine ⟨_, (pss_cons (ps_set (i := 1) sc_first_leader.nd rfl (.inl rfl) pe_int)
      (pss_cons (ps_for PassesOwn.never rfl (pi_range2 (by rfl) T.z_range (pa_cons pe_int (pa_cons (pe_callB call_len_seq (by rfl) T.z_len boot_len (pa_cons (pv 0) pa_nil)) pa_nil))) (pg_name (i := 2) sc_first_leader.nd rfl (.inl rfl)) (pss_cons (ps_set (i := 3) sc_first_leader.nd rfl (.inl rfl) (pe_ix (ix_listK (K := K) rfl) (pv 0) (pv 2) (fun _ _ => rfl)))
      (pss_cons (ps_set (i := 4) sc_first_leader.nd rfl (.inl rfl) (pe_ix (ix_listK (K := K) rfl) (pv 0) (pv 1) (fun _ _ => rfl)))
      (pss_one (ps_if (PW.pt (pw_or (pt_val (pe_cal C_is_less (hr.mono (by omega)) (by rfl) (pa_cons (pe_ix (ix_tupK (K := K) rfl) (pv 3) pe_int (fun _ _ => rfl)) (pa_cons (pe_ix (ix_tupK (K := K) rfl) (pv 4) pe_int (fun _ _ => rfl)) pa_nil)))) (pw_or1 (PW.pt (pw_and (pt_cmpR (op_eqD hr.units) (pe_ix (ix_tupK (K := K) rfl) (pv 3) pe_int (fun _ _ => rfl)) (pe_ix (ix_tupK (K := K) rfl) (pv 4) pe_int (fun _ _ => rfl)) (nomark _)) (pw_and1 (pt_val (pe_cal C_is_less (hr.mono (by omega)) (by rfl) (pa_cons (pe_ix (ix_tupK (K := K) rfl) (pv 4) pe_int (fun _ _ => rfl)) (pa_cons (pe_ix (ix_tupK (K := K) rfl) (pv 3) pe_int (fun _ _ => rfl)) pa_nil)))))))))) (pss_one (ps_set (i := 1) sc_first_leader.nd rfl (.inl rfl) (pv 2))) pss_nil)))))
      (pss_one (ps_ret (pv 1))))), ?_⟩
  refine s_seq (s_set ev_int (s_seqM (M := fun G => ∃ s2 s3 s4, G = [.im (linesD n f), .im (.int (firstL n f : Nat)), s2, s3, s4])
    (s_forR2 (lo := 1) (n := n - 1) (eap_cons ev_int.p (eap_cons ((ev_lenL (ev_var rfl).p).is (by congr 1; omega)).p eap_nil)) (by omega)
      (fun i G => ∃ s2 s3 s4, G = [.im (linesD n f), .im (.int ((List.range i).foldl (fun found r => if better f (r + 1) found then r + 1 else found) 0 : Nat)), s2, s3, s4]) ⟨_, _, _, rfl⟩ ?_ (fun G h => h)) ?_))
  · rintro i G hi ⟨s2, s3, s4, rfl⟩
    have hl := bfold_le f i
    rw [List.range_succ, List.foldl_append]
    simp only [List.foldl_cons, List.foldl_nil]
    generalize (List.range i).foldl (fun found r => if better f (r + 1) found then r + 1 else found) 0 = q at *
    rw [show (1 : Int) + (i : Int) = ((i + 1 : Nat) : Int) by omega]
    refine s_seq (s_set (ev_line (i := i + 1) (ev_var rfl) (ev_var rfl).p (by omega)) (s_seq (s_set (ev_line (i := q) (ev_var rfl) (ev_var rfl).p (by omega)) (s_if (b := better f (i + 1) q)
      (et_or (et_B (ev_is_less (szb (hf _).2) (szb (hf _).2) (ev_sl (ev_var rfl)).p (ev_sl (ev_var rfl)).p)) (fun _ => et_and (et_test (ev_eq_nm (ev_sl (ev_var rfl)).p (ev_sl (ev_var rfl)).p)) (fun _ => et_B (ev_is_less (szb (hf _).1) (szb (hf _).1) (ev_st (ev_var rfl)).p (ev_st (ev_var rfl)).p)))) (fun hb => s_set (ev_var rfl) ?_) (fun hb => s_next ?_)))))
    · rw [if_pos hb]; exact ⟨_, _, _, rfl⟩
    · rw [if_neg (by rw [hb]; exact Bool.false_ne_true)]; exact ⟨_, _, _, rfl⟩
  · rintro G ⟨s2, s3, s4, rfl⟩
    exact s_ret (ev_var rfl) rfl
theorem ev_first_leader {n : Nat} {f : Nat → Ln} (hf : SzF f) (h0 : 0 < n) (hn : n ≤ 100) (h1 : EvP K B ta G (linesD n f)) : Ev K B (tCall (SpI K R_first_leader) [] E0 (tCons ta tNil)) G (.int (firstL n f : Nat)) := ev_call (eap_cons h1 eap_nil) ⟨n, f, hf, h0, hn, rfl, rfl⟩ rfl
/-! passed_at -/
def R_passed_at (ds : List PD) (es : List PD) : Prop := ∃ (n : Nat) (f : Nat → Ln) (ld : Nat) (o : Option Rat), SzF f ∧ (∀ t, o = some t → Sz 600 t) ∧ ld < n ∧ n ≤ 100 ∧ ds = [linesD n f, .int (ld : Int), optD o] ∧ es = (passed n f ld o).map nm
abbrev s_passed_at : Stmt := topS 28
theorem sc_passed_at : FnScope ["lines", "leader", "since", "found", "line", "time"] ["lines", "leader", "since"] (defScope s_passed_at) := ⟨rfl, rfl, rfl, by decide +kernel, rfl, by decide +kernel, by decide +kernel⟩
theorem ok_passed_at (D : Df K mg "passed_at" s_passed_at ["lines", "leader", "since"]) (T : Txt mg) (C_is_less : Cal P w K mg base 1 "is_less" ["a", "b"] (SpI K R_is_less)) (C_meeting : Cal P w K mg base 4 "meeting" ["one", "other"] (SpI K R_meeting)) :
    Cal P w K mg base 5 "passed_at" ["lines", "leader", "since"] (SpO K R_passed_at) := by
  refine Cal.ofO D sc_passed_at (by decide) (fun ds d h => by obtain ⟨n, f, ld, o, _, _, _, _, rfl, _⟩ := h; rfl) (fun f cdv A outer s H E hr ds d h => ?_)
  obtain ⟨n, f, ld, o, hf, ho, hld, hn, rfl, rfl⟩ := h
  refine ⟨_, (pss_cons (ps_set (i := 3) sc_passed_at.nd rfl (.inl rfl) (pe_lst pa_nil))
      (pss_cons (ps_for PassesOwn.never rfl (pi_list (pv 0)) (pg_name (i := 4) sc_passed_at.nd rfl (.inl rfl)) (pss_one (ps_if (pt_val (pe_cal C_is_less (hr.mono (by omega)) (by rfl) (pa_cons (pe_ix (ix_tupK (K := K) rfl) (pe_ix (ix_listK (K := K) rfl) (pv 0) (pv 1) (fun _ _ => rfl)) pe_int (fun _ _ => rfl)) (pa_cons (pe_ix (ix_tupK (K := K) rfl) (pv 4) pe_int (fun _ _ => rfl)) pa_nil)))) (pss_cons (ps_set (i := 5) sc_passed_at.nd rfl (.inl rfl) (pe_ix (ix_tupK (K := K) rfl) (pe_cal C_meeting (hr.mono (by omega)) (by rfl) (pa_cons (pe_ix (ix_listK (K := K) rfl) (pv 0) (pv 1) (fun _ _ => rfl)) (pa_cons (pv 4) pa_nil))) pe_int (fun _ _ => rfl)))
      (pss_one (ps_if (PW.pt (pw_or (pt_cmpR op_isN (pv 2) pe_non (nomark _)) (pw_or1 (pt_val (pe_cal C_is_less (hr.mono (by omega)) (by rfl) (pa_cons (pv 2) (pa_cons (pv 5) pa_nil))))))) (pss_one (ps_expr (pe_bm PySem.F.plainAttrs_list PySem.F.slot_list_append PySem.F.type_list_append mt_append (pv 3) (pa_cons (pv 5) pa_nil)))) pss_nil))) pss_nil)))
      (pss_one (ps_ret (pv 3))))), ?_⟩
  refine s_seq (s_setO (eo_lst eap_nil) rfl (fun a _ => s_seqM (M := fun G => ∃ s4 s5, G = [.im (linesD n f), .im (.int (ld : Int)), .im (optD o), .ow a ((passed n f ld o).map nm), s4, s5])
    (s_forB (ds := (List.range n).map fun i => lnD (f i)) (ev_var rfl) (fun i G => ∃ s4 s5, G = [.im (linesD n f), .im (.int (ld : Int)), .im (optD o), .ow a ((passed i f ld o).map nm), s4, s5]) ⟨_, _, rfl⟩ ?_ (fun G h => by simpa using h)) ?_))
  · rintro i d G hd ⟨s4, s5, rfl⟩
    have hi : i < n := by
      have := (List.getElem?_eq_some_iff.mp hd).1
      simpa using this
    have e : d = lnD (f i) := by
      rw [List.getElem?_map, List.getElem?_range hi] at hd
      exact (Option.some.inj hd).symm
    subst e
    refine ⟨[4], _, tg_name (by simp), ?_⟩
    have hstep : passed (i + 1) f ld o = passed i f ld o ++ (if (f ld).2 < (f i).2 ∧ isLater o (meetT (f ld) (f i)) = true then [meetT (f ld) (f i)] else []) := by
      unfold passed
      rw [List.range_succ, List.filterMap_append]
      congr 1
      by_cases c : (f ld).2 < (f i).2 ∧ isLater o (meetT (f ld) (f i)) = true
      · simp only [List.filterMap_cons, List.filterMap_nil, if_pos c]
      · simp only [List.filterMap_cons, List.filterMap_nil, if_neg c]
    have hlen : (passed i f ld o).length ≤ i := by
      unfold passed
      have := List.length_filterMap_le (fun i => if (f ld).2 < (f i).2 ∧ isLater o (meetT (f ld) (f i)) = true then some (meetT (f ld) (f i)) else none) (List.range i)
      rw [List.length_range] at this
      exact this
    refine s_if (et_B (ev_is_less (szb (hf _).2) (szb (hf _).2) (ev_sl (ev_line (ev_var rfl) (ev_var rfl).p hld)).p (ev_sl (ev_var rfl)).p)) (fun hb => ?_) (fun hb => s_next ?_)
    · have hs : (f ld).2 < (f i).2 := of_decide_eq_true hb
      have hne : (f ld).2 ≠ (f i).2 := fun z => Rat.lt_irrefl (z ▸ hs)
      have hm := szb (meet_sz (hf ld) (hf i) hne)
      refine s_seq (s_set (ev_meet1 hne (ev_meeting (hf _) (hf _) (ev_line (ev_var rfl) (ev_var rfl).p hld).p (ev_var rfl).p)) ?_)
      refine s_if (b := isLater o (meetT (f ld) (f i))) ?_ (fun hb2 => s_app (ds := (passed i f ld o).map nm) rfl (ev_var rfl) (by rw [List.length_map]; exact small_sz (by omega)) ?_) (fun hb2 => s_next ?_)
      · cases o with
        | none => exact (et_or (b := false) (et_test (ev_op (ev_var rfl).p ev_non.p op_is')) (fun z => absurd z (by decide))).is rfl
        | some t => exact (et_or (et_test (ev_op (ev_var rfl).p ev_non.p op_is')) (fun _ => et_B (ev_is_less (szb (ho t rfl)) hm (ev_var rfl).p (ev_var rfl).p))).is rfl
      · rw [hstep, if_pos ⟨hs, hb2⟩, List.map_append]; exact ⟨_, _, rfl⟩
      · rw [hstep, if_neg (fun z => by rw [hb2] at z; exact Bool.false_ne_true z.2), List.append_nil]; exact ⟨_, _, rfl⟩
    · have hs : ¬ (f ld).2 < (f i).2 := of_decide_eq_false hb
      rw [hstep, if_neg (fun z => hs z.1), List.append_nil]; exact ⟨_, _, rfl⟩
  · rintro G ⟨s4, s5, rfl⟩
    exact s_retV rfl rfl
theorem eo_passed_at {n : Nat} {f : Nat → Ln} {ld : Nat} {o : Option Rat} (hf : SzF f) (ho : ∀ t, o = some t → Sz 600 t) (hld : ld < n) (hn : n ≤ 100) (h1 : EvP K B ta G (linesD n f)) (h2 : EvP K B tb G (.int (ld : Int))) (h3 : EvP K B tt G (optD o)) :
    EvO K B (tCall (SpO K R_passed_at) [] E0 (tCons ta (tCons tb (tCons tt tNil)))) G ((passed n f ld o).map nm) := eo_call (eap_cons h1 (eap_cons h2 (eap_cons h3 eap_nil))) ⟨n, f, ld, o, hf, ho, hld, hn, rfl, rfl⟩
/-! earliest -/
def R_earliest (ds : List PD) (d : PD) : Prop := ∃ (ts : List Rat), ts ≠ [] ∧ (∀ t ∈ ts, Sz 600 t) ∧ ds = [.list (ts.map nm)] ∧ d = nm (earliest ts)
abbrev s_earliest : Stmt := topS 29
theorem sc_earliest : FnScope ["times", "found", "time"] ["times"] (defScope s_earliest) := ⟨rfl, rfl, rfl, by decide +kernel, rfl, by decide +kernel, by decide +kernel⟩
theorem ok_earliest (D : Df K mg "earliest" s_earliest ["times"]) (C_is_less : Cal P w K mg base 1 "is_less" ["a", "b"] (SpI K R_is_less)) :
    Cal P w K mg base 2 "earliest" ["times"] (SpI K R_earliest) := by
  refine Cal.ofI D sc_earliest (by decide) (fun ds d h => by obtain ⟨ts, _, _, rfl, _⟩ := h; rfl) (fun f cdv A outer s H E hr ds d h => ?_)
  obtain ⟨ts, h0, hs, rfl, rfl⟩ := h
  refine ⟨_, (pss_cons (ps_set (i := 1) sc_earliest.nd rfl (.inl rfl) (pe_ix (ix_listK (K := K) rfl) (pv 0) pe_int (fun _ _ => rfl)))
      (pss_cons (ps_for PassesOwn.never rfl (pi_list (pv 0)) (pg_name (i := 2) sc_earliest.nd rfl (.inl rfl)) (pss_one (ps_if (pt_val (pe_cal C_is_less (hr.mono (by omega)) (by rfl) (pa_cons (pv 2) (pa_cons (pv 1) pa_nil)))) (pss_one (ps_set (i := 1) sc_earliest.nd rfl (.inl rfl) (pv 2))) pss_nil)))
      (pss_one (ps_ret (pv 1))))), ?_⟩
  have hz : atI (ts.map nm) 0 = some (nm (ts.headD 0)) := by
    cases ts with
    | nil => exact absurd rfl h0
    | cons t ts => exact atI_nat (j := 0) rfl
  have hmem : ∀ i, i ≤ ts.length → (ts.take i).foldl (fun found t => if t < found then t else found) (ts.headD 0) ∈ ts := by
    intro i hi
    have e := efold_spec (ts.take i) (ts.headD 0)
    rcases e.1 with q | q
    · rw [q]
      cases ts with
      | nil => exact absurd rfl h0
      | cons t ts => exact List.mem_cons_self
    · exact List.mem_of_mem_take q
  refine s_seq (s_set (ev_ixL (ev_var rfl) ev_int.p hz) (s_seqM (M := fun G => ∃ s2, G = [.im (.list (ts.map nm)), .im (nm (earliest ts)), s2])
    (s_forB (ds := ts.map nm) (ev_var rfl) (fun i G => i ≤ ts.length ∧ ∃ s2, G = [.im (.list (ts.map nm)), .im (nm ((ts.take i).foldl (fun found t => if t < found then t else found) (ts.headD 0))), s2]) ⟨Nat.zero_le _, _, rfl⟩ ?_ (fun G h => ?_)) ?_))
  · rintro i d G hd ⟨hle, s2, rfl⟩
    have hi : i < ts.length := by
      have := (List.getElem?_eq_some_iff.mp hd).1
      simpa using this
    have e : d = nm ts[i] := by
      rw [List.getElem?_map, List.getElem?_eq_getElem hi] at hd
      exact (Option.some.inj hd).symm
    subst e
    have hm := hmem i hle
    have hstep : (ts.take (i + 1)).foldl (fun found t => if t < found then t else found) (ts.headD 0) = (if ts[i] < (ts.take i).foldl (fun found t => if t < found then t else found) (ts.headD 0) then ts[i] else (ts.take i).foldl (fun found t => if t < found then t else found) (ts.headD 0)) := by
      rw [List.take_add_one, List.getElem?_eq_getElem hi, List.foldl_append]; rfl
    refine ⟨[2], _, tg_name (by simp), ?_⟩
    rw [hstep]
    generalize (ts.take i).foldl (fun found t => if t < found then t else found) (ts.headD 0) = q at *
    refine s_if (et_B (ev_is_less (szb (hs _ (List.getElem_mem hi))) (szb (hs _ hm)) (ev_var rfl).p (ev_var rfl).p)) (fun hb => s_set (ev_var rfl) ?_) (fun hb => s_next ?_)
    · rw [if_pos (of_decide_eq_true hb)]; exact ⟨by omega, _, rfl⟩
    · rw [if_neg (of_decide_eq_false hb)]; exact ⟨by omega, _, rfl⟩
  · obtain ⟨_, s2, rfl⟩ := h
    rw [List.length_map, List.take_length]
    exact ⟨_, rfl⟩
  · rintro G ⟨s2, rfl⟩
    exact s_ret (ev_var rfl) rfl
theorem ev_earliest {ts : List Rat} (h0 : ts ≠ []) (hs : ∀ t ∈ ts, Sz 600 t) (h1 : EvP K B ta G (.list (ts.map nm))) : Ev K B (tCall (SpI K R_earliest) [] E0 (tCons ta tNil)) G (nm (earliest ts)) := ev_call (eap_cons h1 eap_nil) ⟨ts, h0, hs, rfl, rfl⟩ rfl
end
end PF

-- P9
set_option linter.all false
set_option maxRecDepth 100000
set_option maxHeartbeats 2000000
namespace PF
open PySem PySem.Spec PyProof.Rows L2 LT
section
variable {P : Program} {w : World} {K : PySem.W.Frag} {mg : Str → Option Value} {base : Heap} {B : Hp} {G : List Sl} {te ta tb tt td : TE}
/-! leaders -/
def R_leaders (ds : List PD) (es : List PD) : Prop := ∃ (n : Nat) (f : Nat → Ln), SzF f ∧ n ≤ 100 ∧ ds = [linesD n f] ∧ es = (leaders n f).map rowD
abbrev s_leaders : Stmt := topS 30
theorem sc_leaders : FnScope ["lines", "found", "times", "time"] ["lines"] (defScope s_leaders) := ⟨rfl, rfl, rfl, by decide +kernel, rfl, by decide +kernel, by decide +kernel⟩
theorem lines_nil (n : Nat) (f : Nat → Ln) : ((List.range n).map fun i => lnD (f i)) = [] ↔ n = 0 := by
  rw [List.map_eq_nil_iff]
  constructor
  · intro h
    have := congrArg List.length h
    simpa using this
  · rintro rfl; rfl
theorem passed_sz {n : Nat} {f : Nat → Ln} {ld : Nat} {o : Option Rat} (hf : SzF f) : ∀ t ∈ passed n f ld o, Sz 402 t := fun t ht => by
  obtain ⟨i, hi, hs, _, rfl⟩ := mem_passed.mp ht
  exact meet_sz (hf _) (hf _) (fun z => Rat.lt_irrefl (z ▸ hs))
theorem rowFrom_len (n : Nat) (f : Nat → Ln) : ∀ (k : Nat) (p : Nat × Option Rat), (rowFrom n f k p).length ≤ k + 1
  | 0, p => Nat.le_refl _
  | k + 1, p => by
    unfold rowFrom
    split
    · simp
    · have := rowFrom_len n f k (aheadAll n f (earliest (passed n f p.1 p.2)), some (earliest (passed n f p.1 p.2)))
      simp only [List.length_cons]
      omega
theorem leaders_len (n : Nat) (f : Nat → Ln) : (leaders n f).length ≤ n + 1 := by
  unfold leaders
  split
  · simp
  · exact rowFrom_len n f n _
theorem ok_leaders (D : Df K mg "leaders" s_leaders ["lines"]) (C_first_leader : Cal P w K mg base 2 "first_leader" ["lines"] (SpI K R_first_leader)) (C_passed_at : Cal P w K mg base 5 "passed_at" ["lines", "leader", "since"] (SpO K R_passed_at))
    (C_earliest : Cal P w K mg base 2 "earliest" ["times"] (SpI K R_earliest)) (C_ahead_of_all : Cal P w K mg base 6 "ahead_of_all" ["lines", "time"] (SpI K R_ahead_of_all)) :
    Cal P w K mg base 7 "leaders" ["lines"] (SpO K R_leaders) := by
  refine Cal.ofO D sc_leaders (by decide) (fun ds d h => by obtain ⟨n, f, _, _, rfl, _⟩ := h; rfl) (fun f cdv A outer s H E hr ds d h => ?_)
  obtain ⟨n, f, hf, hn, rfl, rfl⟩ := h
  refine ⟨_, (pss_cons (ps_if (pt_cmpR (op_eqD hr.units) (pv 0) (pe_lst pa_nil) (nomark _)) (pss_one (ps_ret (pe_lst pa_nil))) pss_nil)
      (pss_cons (ps_set (i := 1) sc_leaders.nd rfl (.inl rfl) (pe_lst (pa_cons (pe_tup (pa_cons (pe_cal C_first_leader (hr.mono (by omega)) (by rfl) (pa_cons (pv 0) pa_nil)) (pa_cons pe_non pa_nil))) pa_nil)))
      (pss_cons (ps_set (i := 2) sc_leaders.nd rfl (.inl rfl) (pe_cal C_passed_at (hr.mono (by omega)) (by rfl) (pa_cons (pv 0) (pa_cons (pe_ix (ix_tupK (K := K) rfl) (pe_ix (ix_listK (K := K) rfl) (pv 1) pe_int (fun _ _ => rfl)) pe_int (fun _ _ => rfl)) (pa_cons pe_non pa_nil)))))
      (pss_cons (ps_while PassesOwn.never (pt_cmpR (op_neD hr.units) (pv 2) (pe_lst pa_nil) (nomark _)) (pss_cons (ps_set (i := 3) sc_leaders.nd rfl (.inl rfl) (pe_cal C_earliest (hr.mono (by omega)) (by rfl) (pa_cons (pv 2) pa_nil)))
      (pss_cons (ps_expr (pe_bm PySem.F.plainAttrs_list PySem.F.slot_list_append PySem.F.type_list_append mt_append (pv 1) (pa_cons (pe_tup (pa_cons (pe_cal C_ahead_of_all (hr.mono (by omega)) (by rfl) (pa_cons (pv 0) (pa_cons (pv 3) pa_nil))) (pa_cons (pv 3) pa_nil))) pa_nil)))
      (pss_one (ps_set (i := 2) sc_leaders.nd rfl (.inl rfl) (pe_cal C_passed_at (hr.mono (by omega)) (by rfl) (pa_cons (pv 0) (pa_cons (pe_ix (ix_tupK (K := K) rfl) (pe_ix (ix_listK (K := K) rfl) (pv 1) (pe_un un_neg pe_int) (fun _ _ => rfl)) pe_int (fun _ _ => rfl)) (pa_cons (pv 3) pa_nil)))))))))
      (pss_one (ps_ret (pv 1))))))), ?_⟩
  refine s_seq (s_if (et_test (ev_eq_nil (shp_lines n f) (by decide) (ev_var rfl).p (eo_lst eap_nil).p)) (fun hb => ?_) (fun hb => s_next ?_))
  · have h0 : n = 0 := (lines_nil n f).mp (of_decide_eq_true hb)
    refine s_retO (eo_lst eap_nil) rfl ?_
    unfold leaders; rw [if_pos h0]; rfl
  · have h0 : ¬ n = 0 := fun z => of_decide_eq_false hb ((lines_nil n f).mpr z)
    have hl0 := firstL_spec n f (by omega)
    refine s_seq (s_setO (eo_lst (eap_cons (ev_tup (ea_cons (ev_first_leader hf (by omega) hn (ev_var rfl).p) (ea_cons ev_non ea_nil))).p eap_nil)) rfl (fun a _ => ?_))
    refine s_seq (s_setO (eo_passed_at (o := none) hf (fun t z => (nomatch z)) hl0.1 hn (ev_var rfl).p (ev_ixT (ev_ixV rfl ev_int.p rfl) ev_int.p rfl).p ev_non.p) (nms_noL _) (fun b hb2 => ?_))
    refine s_seqM (M := fun G => ∃ s2 s3, G = [.im (linesD n f), .ow a ((leaders n f).map rowD), s2, s3])
      (s_while (fun m G => ∃ (pre : List (Nat × Option Rat)) (p : Nat × Option Rat) (b : Addr) (s3 : Sl), G = [.im (linesD n f), .ow a ((pre ++ [p]).map rowD), .ow b ((passed n f p.1 p.2).map nm), s3] ∧ Leads n f p ∧ steeper n f p.1 ≤ m ∧ pre.length + m ≤ n ∧ pre ++ rowFrom n f m p = leaders n f) n
        ⟨[], (firstL n f, none), b, _, rfl, hl0, steeper_le n f _, by simp, by unfold leaders; rw [if_neg h0]; rfl⟩ ?_) ?_
    · rintro m G ⟨pre, p, b, s3, rfl, hl, hm, hpl, hrow⟩
      refine ⟨_, et_test (ev_ne_nil (shp_nms _) (by decide) (ep_var rfl) (eo_lst eap_nil).p), fun hb => ?_, fun hb => ?_⟩
      · have hne : passed n f p.1 p.2 ≠ [] := by
          intro z
          rw [z] at hb
          simp at hb
        obtain ⟨e1, e2⟩ := earliest_spec hne
        have hsz : ∀ t ∈ passed n f p.1 p.2, Sz 600 t := fun t ht => sz_mono (passed_sz hf t ht) (by decide)
        have hq := next_leads hl
        have rise := leads_rise hl hne
        have hlt : steeper n f (aheadAll n f (earliest (passed n f p.1 p.2))) < steeper n f p.1 := steeper_lt hq.1 rise
        refine s_seq (s_set (ev_earliest hne hsz (ep_var rfl)) (s_seq (s_app (ds := (pre ++ [p]).map rowD) rfl (ev_tup (ea_cons (ev_ahead_of_all hf (hsz _ e1) (by omega) hn (ev_var rfl).p (ev_var rfl).p) (ea_cons (ev_var rfl) ea_nil))) ?_
          (s_setO (eo_passed_at (o := some (earliest (passed n f p.1 p.2))) hf (fun t z => by cases z; exact hsz _ e1) hq.1 hn (ev_var rfl).p (ev_ixT (ds := [.int ((aheadAll n f (earliest (passed n f p.1 p.2)) : Nat) : Int), optD (some (earliest (passed n f p.1 p.2)))]) (ev_ixV (i := -1) rfl (ev_un_neg ev_int) ?_) ev_int.p rfl).p (ev_var rfl).p) (nms_noL _) (fun b' _ => ?_)))))
        · rw [List.length_map, List.length_append]
          exact small_sz (by simp only [List.length_singleton]; omega)
        · exact atI_last _ (rowD (aheadAll n f (earliest (passed n f p.1 p.2)), some (earliest (passed n f p.1 p.2))))
        · cases m with
          | zero => exact absurd hlt (by omega)
          | succ m =>
            refine ⟨m, by omega, pre ++ [p], (aheadAll n f (earliest (passed n f p.1 p.2)), some (earliest (passed n f p.1 p.2))), b', .im (nm (earliest (passed n f p.1 p.2))), ?_, hq, ?_, ?_, ?_⟩
            · rw [List.map_append (l₁ := pre ++ [p])]; rfl
            · show steeper n f (aheadAll n f (earliest (passed n f p.1 p.2))) ≤ m
              omega
            · rw [List.length_append]; simp only [List.length_singleton]; omega
            · rw [← hrow, List.append_assoc]
              congr 1
              conv => rhs; unfold rowFrom
              rw [if_neg hne]; rfl
      · have hne : passed n f p.1 p.2 = [] := by
          have : (passed n f p.1 p.2).map nm = [] := by simpa using hb
          exact List.map_eq_nil_iff.mp this
        have hr1 : rowFrom n f m p = [p] := by
          cases m with
          | zero => rfl
          | succ m => unfold rowFrom; rw [if_pos hne]
        rw [hr1] at hrow
        rw [← hrow]
        exact ⟨_, _, rfl⟩
    · rintro G ⟨s2, s3, rfl⟩
      exact s_retV rfl rfl
theorem eo_leaders {n : Nat} {f : Nat → Ln} (hf : SzF f) (hn : n ≤ 100) (h1 : EvP K B ta G (linesD n f)) : EvO K B (tCall (SpO K R_leaders) [] E0 (tCons ta tNil)) G ((leaders n f).map rowD) := eo_call (eap_cons h1 eap_nil) ⟨n, f, hf, hn, rfl, rfl⟩
/-! is_row -/
def R_is_row (ds : List PD) (d : PD) : Prop := ∃ (n : Nat) (f : Nat → Ln), SzF f ∧ n ≤ 100 ∧ ds = [linesD n f, .list ((leaders n f).map rowD)] ∧ d = .bool true
abbrev s_is_row : Stmt := topS 31
theorem sc_is_row : FnScope ["lines", "row"] ["lines", "row"] (defScope s_is_row) := ⟨rfl, rfl, rfl, by decide +kernel, rfl, by decide +kernel, by decide +kernel⟩
theorem ok_is_row (D : Df K mg "is_row" s_is_row ["lines", "row"]) (C_leaders : Cal P w K mg base 7 "leaders" ["lines"] (SpO K R_leaders)) : Cal P w K mg base 8 "is_row" ["lines", "row"] (SpI K R_is_row) := by
  refine Cal.ofI D sc_is_row (by decide) (fun ds d h => by obtain ⟨n, f, _, _, rfl, _⟩ := h; rfl) (fun f cdv A outer s H E hr ds d h => ?_)
  obtain ⟨n, f, hf, hn, rfl, rfl⟩ := h
  refine ⟨_, (pss_one (ps_ret (pe_cmpR (op_eqD hr.units) (pv 1) (pe_cal C_leaders (hr.mono (by omega)) (by rfl) (pa_cons (pv 0) pa_nil)) (nomark _)))), ?_⟩
  exact s_ret (ev_same_eq (shp_rows _) (by decide) (ev_var rfl).p (eo_leaders hf hn (ev_var rfl).p).p) rfl
theorem ev_is_row {n : Nat} {f : Nat → Ln} (hf : SzF f) (hn : n ≤ 100) (h1 : EvP K B ta G (linesD n f)) (h2 : EvP K B tb G (.list ((leaders n f).map rowD))) : Ev K B (tCall (SpI K R_is_row) [] E0 (tCons ta (tCons tb tNil))) G (.bool true) := ev_call (eap_cons h1 (eap_cons h2 eap_nil)) ⟨n, f, hf, hn, rfl, rfl⟩ rfl
/-! front -/
def R_front (ds : List PD) (es : List PD) : Prop := ∃ (n : Nat) (f : Nat → Ln) (t : Rat), SzF f ∧ Sz 600 t ∧ n ≤ 100 ∧ ds = [linesD n f, nm t] ∧ es = natsD (front n f t)
abbrev s_front : Stmt := topS 32
theorem sc_front : FnScope ["lines", "time", "places", "found", "runner", "line", "place"] ["lines", "time"] (defScope s_front) := ⟨rfl, rfl, rfl, by decide +kernel, rfl, by decide +kernel, by decide +kernel⟩
theorem rmap_get {α : Type} {n : Nat} {g : Nat → α} {k : Nat} {d : α} (h : ((List.range n).map g)[k]? = some d) : k < n ∧ d = g k := by
  have hk : k < n := by
    have := (List.getElem?_eq_some_iff.mp h).1
    simpa using this
  rw [List.getElem?_map, List.getElem?_range hk] at h
  exact ⟨hk, (Option.some.inj h).symm⟩
theorem ok_front (D : Df K mg "front" s_front ["lines", "time"]) (T : Txt mg) (C_place_at : Cal P w K mg base 4 "place_at" ["line", "time"] (SpI K R_place_at)) (C_is_less : Cal P w K mg base 1 "is_less" ["a", "b"] (SpI K R_is_less)) :
    Cal P w K mg base 5 "front" ["lines", "time"] (SpO K R_front) := by
  refine Cal.ofO D sc_front (by decide) (fun ds d h => by obtain ⟨n, f, t, _, _, _, rfl, _⟩ := h; rfl) (fun f cdv A outer s H E hr ds d h => ?_)
  obtain ⟨n, f, t, hf, ht, hn, rfl, rfl⟩ := h
  refine ⟨_, (pss_cons (ps_set (i := 2) sc_front.nd rfl (.inr rfl) (pe_lc (own := [("line", 5)]) (tt := tYes) rfl sc_front.nd (pi_list (pv 0)) (blkOk_by (own := [("line", 5)]) (N := ["lines", "time", "places", "found", "runner", "line", "place"]) (sc := defScope (topS 32)) (by decide +kernel)) (fun _ _ _ _ _ => (pg_name (i := 5) sc_front.nd rfl (.inl rfl) (.inr rfl))) (fun _ _ _ _ _ => pts_nil) (fun _ _ _ _ _ => (pe_cal C_place_at (hr.mono (by omega)) (by rfl) (pa_cons (pv 5) (pa_cons (pv 1) pa_nil))))))
      (pss_cons (ps_set (i := 3) sc_front.nd rfl (.inl rfl) (pe_lst pa_nil))
      (pss_cons (ps_for PassesOwn.never rfl (pi_range1 (by rfl) T.z_range (pa_cons (pe_callB call_len_seq (by rfl) T.z_len boot_len (pa_cons (pv 0) pa_nil)) pa_nil)) (pg_name (i := 4) sc_front.nd rfl (.inr rfl)) (pss_one (ps_if (pt_not (pt_val (pe_callB (cr_any rfl) (by rfl) T.z_any boot_any (pa_cons (pe_lc (own := [("place", 6)]) (tt := tYes) rfl sc_front.nd (pi_list (pv 2)) (blkOk_by (own := [("place", 6)]) (N := ["lines", "time", "places", "found", "runner", "line", "place"]) (sc := defScope (topS 32)) (by decide +kernel)) (fun _ _ _ _ _ => (pg_name (i := 6) sc_front.nd rfl (.inl rfl) (.inr rfl))) (fun _ _ _ _ _ => pts_nil) (fun _ _ _ _ _ => (pe_cal C_is_less (hr.mono (by omega)) (by rfl) (pa_cons (pe_ix (ix_listK (K := K) rfl) (pv 2) (pv 4) (fun _ _ => rfl)) (pa_cons (pv 6) pa_nil))))) pa_nil)))) (pss_one (ps_expr (pe_bm PySem.F.plainAttrs_list PySem.F.slot_list_append PySem.F.type_list_append mt_append (pv 3) (pa_cons (pv 4) pa_nil)))) pss_nil)))
      (pss_one (ps_ret (pv 3)))))), ?_⟩
  refine s_seq (s_setO (ds := (List.range n).map fun i => nm (place (f i) t)) (eo_lc (ds := (List.range n).map fun i => lnD (f i)) (ev_var rfl).p (by simp; exact small_sz (by omega)) (by simp) (fun B' k d e h1 h2 => ?_)) (noLs_iff.mpr fun d hd => ?_) (fun p _ => ?_))
  · obtain ⟨hk, rfl⟩ := rmap_get h1
    obtain ⟨_, rfl⟩ := rmap_get h2
    exact ⟨_, tg_name (by decide), ev_place_at (hf k) ht (ev_var rfl).p (ev_var rfl).p⟩
  · obtain ⟨x, _, rfl⟩ := List.mem_map.mp hd
    exact nm_noL _
  refine s_seq (s_setO (eo_lst eap_nil) rfl (fun a _ => s_seqM (M := fun G => ∃ s4 s5 s6, G = [.im (linesD n f), .im (nm t), .ow p ((List.range n).map fun i => nm (place (f i) t)), .ow a (natsD (front n f t)), s4, s5, s6])
    (s_forR1 (n := n) (eap_cons (ev_lenL (ev_var rfl).p).p eap_nil) (by omega) (fun i G => ∃ s4 s5 s6, G = [.im (linesD n f), .im (nm t), .ow p ((List.range n).map fun i => nm (place (f i) t)), .ow a (natsD ((List.range i).filter fun r => !(List.range n).any fun i => decide (place (f r) t < place (f i) t))), s4, s5, s6]) ⟨_, _, _, rfl⟩ ?_ (fun G h => h)) ?_))
  · rintro i G hi ⟨s4, s5, s6, rfl⟩
    have hstep : (List.range (i + 1)).filter (fun r => !(List.range n).any fun i => decide (place (f r) t < place (f i) t)) = (List.range i).filter (fun r => !(List.range n).any fun i => decide (place (f r) t < place (f i) t)) ++ (if ((List.range n).any fun j => decide (place (f i) t < place (f j) t)) = true then [] else [i]) := by
      rw [List.range_succ, List.filter_append]
      congr 1
      rw [List.filter_cons, List.filter_nil]
      cases (List.range n).any fun j => decide (place (f i) t < place (f j) t) <;> rfl
    have hlen := List.length_filter_le (fun r => !(List.range n).any fun i => decide (place (f r) t < place (f i) t)) (List.range i)
    rw [List.length_range] at hlen
    refine s_if (et_not (et_B ((ev_any (bs := (List.range n).map fun j => decide (place (f i) t < place (f j) t)) (eo_lc (ds := (List.range n).map fun i => nm (place (f i) t)) (ep_var rfl) (by simp; exact small_sz (by omega)) (by simp) (fun B' k d e h1 h2 => ?_))).is (x := .bool ((List.range n).any fun j => decide (place (f i) t < place (f j) t))) ?_))) (fun hb => s_app (ds := natsD _) rfl (ev_var rfl) (by rw [natsD_len]; exact small_sz (by omega)) ?_) (fun hb => s_next ?_)
    · obtain ⟨hk, rfl⟩ := rmap_get h1
      rw [List.map_map] at h2
      obtain ⟨_, rfl⟩ := rmap_get h2
      exact ⟨_, tg_name (by decide), ev_is_less (szb (place_sz (hf _) ht)) (szb (place_sz (hf _) ht)) (ev_ixL (ds := (List.range n).map fun i => nm (place (f i) t)) (ev_var rfl) (ev_var rfl).p (atI_map hi)).p (ev_var rfl).p⟩
    · rw [List.any_map]; rfl
    · rw [hstep, if_neg (by simpa using hb)]
      refine ⟨.im (.int (i : Int)), s5, s6, ?_⟩
      unfold natsD
      rw [List.map_append]; rfl
    · rw [hstep, if_pos (by simpa using hb), List.append_nil]; exact ⟨_, _, _, rfl⟩
  · rintro G ⟨s4, s5, s6, rfl⟩
    exact s_retV rfl rfl
theorem eo_front {n : Nat} {f : Nat → Ln} {t : Rat} (hf : SzF f) (ht : Sz 600 t) (hn : n ≤ 100) (h1 : EvP K B ta G (linesD n f)) (h2 : EvP K B tb G (nm t)) : EvO K B (tCall (SpO K R_front) [] E0 (tCons ta (tCons tb tNil))) G (natsD (front n f t)) := eo_call (eap_cons h1 (eap_cons h2 eap_nil)) ⟨n, f, t, hf, ht, hn, rfl, rfl⟩
end
end PF

-- P10
set_option linter.all false
set_option maxRecDepth 100000
set_option maxHeartbeats 2000000
namespace PF
open PySem PySem.Spec PyProof.Rows L2 LT
section
variable {P : Program} {w : World} {K : PySem.W.Frag} {mg : Str → Option Value} {base : Heap} {B : Hp} {G : List Sl} {te ta tb tt td : TE}
/-! cover -/
def covD : Option (Nat × Nat) → PD
  | none => .none
  | some p => .tuple [.int (p.1 : Int), .int (p.2 : Int)]
theorem covD_noL (o : Option (Nat × Nat)) : noL (covD o) = true := by cases o <;> rfl
def R_cover (ds : List PD) (d : PD) : Prop := ∃ (n : Nat) (f : Nat → Ln) (x : Nat), SzF f ∧ n ≤ 100 ∧ x < n ∧ ds = [linesD n f, .int (x : Int)] ∧ d = covD (cover n f x)
abbrev s_cover : Stmt := topS 34
theorem sc_cover : FnScope ["lines", "runner", "row", "at", "leader", "since"] ["lines", "runner"] (defScope s_cover) := ⟨rfl, rfl, rfl, by decide +kernel, rfl, by decide +kernel, by decide +kernel⟩
theorem mem_nats {x : Nat} {l : List Nat} : decide ((x : Int) ∈ l.map fun y : Nat => (y : Int)) = decide (x ∈ l) := by
  rw [decide_eq_decide, List.mem_map]
  constructor
  · rintro ⟨y, hy, e⟩
    have : y = x := by omega
    rw [← this]; exact hy
  · intro h; exact ⟨x, h, rfl⟩
theorem natsD_ints (l : List Nat) : natsD l = (l.map fun y : Nat => (y : Int)).map PyData.int := by
  unfold natsD
  rw [List.map_map]; rfl
theorem ev_in_nats {x : Nat} {l : List Nat} (h : EvP K B ta G (.int (x : Int))) (h' : EvP K B tb G (.list (natsD l))) : Ev K B (tOp (rIn K false) ta tb) G (.bool (decide (x ∈ l))) := by
  rw [natsD_ints] at h'
  exact (ev_op h h' op_inL).is (by rw [mem_nats])
theorem rowFrom_ne (n : Nat) (f : Nat → Ln) (k : Nat) (p : Nat × Option Rat) : rowFrom n f k p ≠ [] := by
  cases k with
  | zero => simp [rowFrom]
  | succ k => unfold rowFrom; split <;> simp
theorem row_lt {n : Nat} {f : Nat → Ln} : ∀ (k : Nat) (p : Nat × Option Rat), Leads n f p → ∀ q ∈ rowFrom n f k p, q.1 < n
  | 0, p, h, q, hq => by
    have : q = p := by simpa [rowFrom] using hq
    rw [this]; exact h.1
  | k + 1, p, h, q, hq => by
    unfold rowFrom at hq
    split at hq
    · have : q = p := by simpa using hq
      rw [this]; exact h.1
    · rcases List.mem_cons.mp hq with rfl | hq
      · exact h.1
      · exact row_lt k _ (next_leads h) q hq
theorem leaders_lt {n : Nat} {f : Nat → Ln} : ∀ q ∈ leaders n f, q.1 < n := fun q hq => by
  unfold leaders at hq
  split at hq
  · cases hq
  · exact row_lt n _ (firstL_spec n f (by omega)) q hq
theorem ok_cover (D : Df K mg "cover" s_cover ["lines", "runner"]) (T : Txt mg) (C_leaders : Cal P w K mg base 7 "leaders" ["lines"] (SpO K R_leaders)) (C_is_less : Cal P w K mg base 1 "is_less" ["a", "b"] (SpI K R_is_less)) :
    Cal P w K mg base 8 "cover" ["lines", "runner"] (SpI K R_cover) := by
  refine Cal.ofI D sc_cover (by decide) (fun ds d h => by obtain ⟨n, f, x, _, _, _, rfl, _⟩ := h; rfl) (fun f cdv A outer s H E hr ds d h => ?_)
  obtain ⟨n, f, x, hf, hn, hx, rfl, rfl⟩ := h
  refine ⟨_, (pss_cons (ps_setLc (i := 2) (py := _) (own := [("leader", 4), ("since", 5)]) (tt := tYes) rfl sc_cover.nd rfl rfl (sw_true rfl rfl rfl (by decide +kernel)) (pi_list (pe_cal C_leaders (hr.mono (by omega)) (by rfl) (pa_cons (pv 0) pa_nil))) (blkOk_by (own := [("leader", 4), ("since", 5)]) (N := ["lines", "runner", "row", "at", "leader", "since"]) (sc := defScope (topS 34)) (by decide +kernel)) (fun _ _ _ _ _ => (pg_tupK (K := K) 2 rfl rfl (pgs_cons (pg_name (i := 4) sc_cover.nd rfl (.inl rfl) (.inr rfl)) (pgs_cons (pg_name (i := 5) sc_cover.nd rfl (.inl rfl) (.inr rfl)) pgs_nil)))) (fun _ _ _ _ _ => pts_nil) (fun _ _ _ _ _ => (pv 4)))
      (pss_cons (ps_if (pt_cmpR op_in_seq (pv 1) (pv 2) rfl) (pss_one (ps_ret pe_non)) pss_nil)
      (pss_cons (ps_set (i := 3) sc_cover.nd rfl (.inl rfl) pe_int)
      (pss_cons (ps_while PassesOwn.never (PW.pt (pw_and (pt_cmpR op_lt (pe_op op_add (pv 3) pe_int) (pe_callB call_len_seq (by rfl) T.z_len boot_len (pa_cons (pv 2) pa_nil)) (nomark _)) (pw_and1 (pt_not (pt_val (pe_cal C_is_less (hr.mono (by omega)) (by rfl) (pa_cons (pe_ix (ix_tupK (K := K) rfl) (pe_ix (ix_listK (K := K) rfl) (pv 0) (pv 1) (fun _ _ => rfl)) pe_int (fun _ _ => rfl)) (pa_cons (pe_ix (ix_tupK (K := K) rfl) (pe_ix (ix_listK (K := K) rfl) (pv 0) (pe_ix (ix_listK (K := K) rfl) (pv 2) (pe_op op_add (pv 3) pe_int) (fun _ _ => rfl)) (fun _ _ => rfl)) pe_int (fun _ _ => rfl)) pa_nil)))))))) (pss_one (ps_set (i := 3) sc_cover.nd rfl (.inl rfl) (pe_op op_add (pv 3) pe_int))))
      (pss_one (ps_ret (pe_tup (pa_cons (pe_ix (ix_listK (K := K) rfl) (pv 2) (pv 3) (fun _ _ => rfl)) (pa_cons (pe_ix (ix_listK (K := K) rfl) (pv 2) (pe_callB (call_min2 rfl) (by rfl) T.z_min boot_min (pa_cons (pe_op op_add (pv 3) pe_int) (pa_cons (pe_op op_sub (pe_callB call_len_seq (by rfl) T.z_len boot_len (pa_cons (pv 2) pa_nil)) pe_int) pa_nil))) (fun _ _ => rfl)) pa_nil))))))))), ?_⟩
  have hll := leaders_len n f
  have hcov : cover n f x = (if x ∈ (leaders n f).map (·.1) then none else some (((leaders n f).map (·.1)).getD (cAt f x ((leaders n f).map (·.1))) 0, ((leaders n f).map (·.1)).getD (min (cAt f x ((leaders n f).map (·.1)) + 1) (((leaders n f).map (·.1)).length - 1)) 0)) := rfl
  have hlt : ∀ y ∈ (leaders n f).map (·.1), y < n := fun y hy => by
    obtain ⟨q, hq, rfl⟩ := List.mem_map.mp hy
    exact leaders_lt q hq
  have hne : (leaders n f).map (·.1) ≠ [] := by
    unfold leaders
    rw [if_neg (by omega)]
    intro z
    exact rowFrom_ne _ _ _ _ (List.map_eq_nil_iff.mp z)
  have hrl : ((leaders n f).map (·.1)).length ≤ n + 1 := by rw [List.length_map]; exact hll
  refine s_seq (s_setO (ds := natsD ((leaders n f).map (·.1))) (eo_lc (eo_leaders hf hn (ev_var rfl).p).p (by rw [List.length_map]; exact small_sz (by omega)) (by simp [natsD]) (fun B' k d e h1 h2 => ?_)) (natsD_noL _) (fun a _ => ?_))
  · rw [List.getElem?_map] at h1
    unfold natsD at h2
    rw [List.map_map, List.getElem?_map] at h2
    obtain ⟨p, hp, rfl⟩ := Option.map_eq_some_iff.mp h1
    rw [hp] at h2
    cases h2
    exact ⟨_, tg_pair (by decide) (by decide), ev_var rfl⟩
  rw [hcov]
  generalize (leaders n f).map (·.1) = row at *
  refine s_seq (s_if (et_test (ev_in_nats (ev_var rfl).p (ep_var rfl))) (fun hb => s_ret ev_non ?_) (fun hb => s_next ?_))
  · rw [if_pos (of_decide_eq_true hb)]; rfl
  rw [if_neg (of_decide_eq_false hb)]
  have step : ∀ at', at' < row.length → cAt f x (row.drop at') = if at' + 1 < row.length ∧ ¬ (f x).2 < (f (row.getD (at' + 1) 0)).2 then cAt f x (row.drop (at' + 1)) + 1 else 0 := by
    intro at' hat
    rw [List.drop_eq_getElem_cons hat]
    by_cases c : at' + 1 < row.length
    · rw [List.drop_eq_getElem_cons c, getD_eq c]
      conv => lhs; unfold cAt
      by_cases c2 : (f x).2 < (f row[at' + 1]).2
      · rw [if_pos c2, if_neg (fun z => z.2 c2)]
      · rw [if_neg c2, if_pos ⟨c, c2⟩]
    · rw [if_neg (fun z => c z.1), List.drop_eq_nil_of_le (by omega)]; rfl
  refine s_seq (s_set ev_int (s_seqM (M := fun G => ∃ s4 s5, G = [.im (linesD n f), .im (.int (x : Int)), .ow a (natsD row), .im (.int (cAt f x row : Nat)), s4, s5])
    (s_while (fun m G => ∃ (at' : Nat) (s4 s5 : Sl), at' < row.length ∧ m = row.length - at' ∧ at' + cAt f x (row.drop at') = cAt f x row ∧ G = [.im (linesD n f), .im (.int (x : Int)), .ow a (natsD row), .im (.int (at' : Nat)), s4, s5]) row.length
      ⟨0, _, _, List.length_pos_iff.mpr hne, rfl, by rw [List.drop_zero]; omega, rfl⟩ ?_) ?_))
  · rintro m G ⟨at', s4, s5, hat, rfl, hc, rfl⟩
    have hst := step at' hat
    by_cases c : at' + 1 < row.length
    · have hy : row.getD (at' + 1) 0 < n := hlt _ (mem_getD c)
      have hix : atI (natsD row) ((at' : Int) + 1) = some (.int (row.getD (at' + 1) 0 : Nat)) := by
        rw [show (at' : Int) + 1 = ((at' + 1 : Nat) : Int) by omega]
        exact atI_nat (natsD_at c)
      refine ⟨!decide ((f x).2 < (f (row.getD (at' + 1) 0)).2), (et_and (et_test (ev_op (ev_op (ev_var rfl).p ev_int.p op_i0).p (ev_len (ep_var rfl)).p op_ib)) (fun _ => et_not (et_B (ev_is_less (szb (hf _).2) (szb (hf _).2) (ev_sl (ev_line (ev_var rfl) (ev_var rfl).p hx)).p (ev_sl (ev_line (ev_var rfl) (ev_ixV rfl (ev_op (ev_var rfl).p ev_int.p op_i0).p hix).p hy)).p)))).is ?_, fun hb => ?_, fun hb => ?_⟩
      · rw [natsD_len]
        have : decide ((at' : Int) + 1 < (row.length : Int)) = true := decide_eq_true (by omega)
        rw [this]; rfl
      · have hns : ¬ (f x).2 < (f (row.getD (at' + 1) 0)).2 := by simpa using hb
        refine s_set (ev_op (ev_var rfl).p ev_int.p op_i0) ⟨_, by omega, at' + 1, s4, s5, c, rfl, ?_, ?_⟩
        · rw [hst, if_pos ⟨c, hns⟩] at hc; omega
        · rw [show (at' : Int) + 1 = ((at' + 1 : Nat) : Int) by omega]; rfl
      · have hs : (f x).2 < (f (row.getD (at' + 1) 0)).2 := by simpa using hb
        rw [hst, if_neg (fun z => z.2 hs)] at hc
        rw [← hc]
        exact ⟨s4, s5, rfl⟩
    · refine ⟨false, (et_and (b := false) (et_test (ev_op (ev_op (ev_var rfl).p ev_int.p op_i0).p (ev_len (ep_var rfl)).p op_ib)) (fun z => ?_)).is ?_, fun hb => (nomatch hb), fun _ => ?_⟩
      · have z' := of_decide_eq_true z
        rw [natsD_len] at z'
        omega
      · rw [Bool.and_false]
      · rw [hst, if_neg (fun z => c z.1)] at hc
        rw [← hc]
        exact ⟨s4, s5, rfl⟩
  · rintro G ⟨s4, s5, rfl⟩
    have hc := @cAt_lt f x row hne
    have h2 : (if (row.length : Int) - 1 < ((cAt f x row : Nat) : Int) + 1 then (row.length : Int) - 1 else ((cAt f x row : Nat) : Int) + 1) = ((min (cAt f x row + 1) (row.length - 1) : Nat) : Int) := by
      split <;> omega
    refine s_ret ((ev_tup (ea_cons (ev_ixV (d := .int (row.getD (cAt f x row) 0 : Nat)) rfl (ev_var rfl).p (atI_nat (natsD_at hc))) (ea_cons (ev_ixV (i := ((min (cAt f x row + 1) (row.length - 1) : Nat) : Int)) (d := .int (row.getD (min (cAt f x row + 1) (row.length - 1)) 0 : Nat)) rfl ((ev_min2 (ev_op (ev_var rfl).p ev_int.p op_i0).p (ev_op (ev_len (ep_var rfl)).p ev_int.p op_i0).p).is ?_).p (atI_nat (natsD_at (by omega)))) ea_nil)))) rfl
    rw [natsD_len, h2]
theorem ev_cover {n : Nat} {f : Nat → Ln} {x : Nat} (hf : SzF f) (hn : n ≤ 100) (hx : x < n) (h1 : EvP K B ta G (linesD n f)) (h2 : EvP K B tb G (.int (x : Int))) : Ev K B (tCall (SpI K R_cover) [] E0 (tCons ta (tCons tb tNil))) G (covD (cover n f x)) := ev_call (eap_cons h1 (eap_cons h2 eap_nil)) ⟨n, f, x, hf, hn, hx, rfl, rfl⟩ (covD_noL _)
/-! is_always_ahead, are_joint, is_cover -/
theorem zero_nm : (.tuple [.int 0, .int 1] : PD) = nm 0 := rfl
def R_is_always_ahead (ds : List PD) (d : PD) : Prop := ∃ (n : Nat) (f : Nat → Ln) (a x : Nat), SzF f ∧ a < n ∧ x < n ∧ ds = [linesD n f, .int (a : Int), .int (x : Int)] ∧ d = .bool (always f a x)
abbrev s_is_always_ahead : Stmt := topS 35
theorem sc_is_always_ahead : FnScope ["lines", "one", "runner"] ["lines", "one", "runner"] (defScope s_is_always_ahead) := ⟨rfl, rfl, rfl, by decide +kernel, rfl, by decide +kernel, by decide +kernel⟩
theorem sz_zero : Sz 600 0 := sz_mono (n := 1) ⟨by decide, by decide⟩ (by decide)
theorem ok_is_always_ahead (D : Df K mg "is_always_ahead" s_is_always_ahead ["lines", "one", "runner"]) (C_is_ahead : Cal P w K mg base 5 "is_ahead" ["lines", "one", "other", "time"] (SpI K R_is_ahead)) :
    Cal P w K mg base 6 "is_always_ahead" ["lines", "one", "runner"] (SpI K R_is_always_ahead) := by
  refine Cal.ofI D sc_is_always_ahead (by decide) (fun ds d h => by obtain ⟨n, f, a, x, _, _, _, rfl, _⟩ := h; rfl) (fun f cdv A outer s H E hr ds d h => ?_)
  obtain ⟨n, f, a, x, hf, ha, hx, rfl, rfl⟩ := h
  refine ⟨_, (pss_one (ps_ret (pe_and (pe_cmpR (op_eqD hr.units) (pe_ix (ix_tupK (K := K) rfl) (pe_ix (ix_listK (K := K) rfl) (pv 0) (pv 1) (fun _ _ => rfl)) pe_int (fun _ _ => rfl)) (pe_ix (ix_tupK (K := K) rfl) (pe_ix (ix_listK (K := K) rfl) (pv 0) (pv 2) (fun _ _ => rfl)) pe_int (fun _ _ => rfl)) (nomark _)) (pe_one (pe_cal C_is_ahead (hr.mono (by omega)) (by rfl) (pa_cons (pv 0) (pa_cons (pv 1) (pa_cons (pv 2) (pa_cons (pe_tup (pa_cons pe_int (pa_cons pe_int pa_nil))) pa_nil))))))))), ?_⟩
  exact s_ret (ev_andV (ev_eq_nm (ev_sl (ev_line (ev_var rfl) (ev_var rfl).p ha)).p (ev_sl (ev_line (ev_var rfl) (ev_var rfl).p hx)).p) (fun _ => ev_is_ahead (t := 0) hf sz_zero ha hx (ev_var rfl).p (ev_var rfl).p (ev_var rfl).p ((ev_tup (ea_cons ev_int (ea_cons ev_int ea_nil))).is zero_nm).p)) rfl
theorem ev_is_always_ahead {n : Nat} {f : Nat → Ln} {a x : Nat} (hf : SzF f) (ha : a < n) (hx : x < n) (h1 : EvP K B ta G (linesD n f)) (h2 : EvP K B tb G (.int (a : Int))) (h3 : EvP K B tt G (.int (x : Int))) : Ev K B (tCall (SpI K R_is_always_ahead) [] E0 (tCons ta (tCons tb (tCons tt tNil)))) G (.bool (always f a x)) := ev_call (eap_cons h1 (eap_cons h2 (eap_cons h3 eap_nil))) ⟨n, f, a, x, hf, ha, hx, rfl, rfl⟩ rfl
def R_are_joint (ds : List PD) (d : PD) : Prop := ∃ (n : Nat) (f : Nat → Ln) (x a b : Nat), SzF f ∧ x < n ∧ a < n ∧ b < n ∧ ds = [linesD n f, .int (x : Int), .int (a : Int), .int (b : Int)] ∧ d = .bool (joint f x a b)
abbrev s_are_joint : Stmt := topS 36
theorem sc_are_joint : FnScope ["lines", "runner", "one", "other"] ["lines", "runner", "one", "other"] (defScope s_are_joint) := ⟨rfl, rfl, rfl, by decide +kernel, rfl, by decide +kernel, by decide +kernel⟩
theorem ok_are_joint (D : Df K mg "are_joint" s_are_joint ["lines", "runner", "one", "other"]) (C_is_less : Cal P w K mg base 1 "is_less" ["a", "b"] (SpI K R_is_less)) (C_meeting : Cal P w K mg base 4 "meeting" ["one", "other"] (SpI K R_meeting)) :
    Cal P w K mg base 5 "are_joint" ["lines", "runner", "one", "other"] (SpI K R_are_joint) := by
  refine Cal.ofI D sc_are_joint (by decide) (fun ds d h => by obtain ⟨n, f, x, a, b, _, _, _, _, rfl, _⟩ := h; rfl) (fun f cdv A outer s H E hr ds d h => ?_)
  obtain ⟨n, f, x, a, b, hf, hx, ha, hb, rfl, rfl⟩ := h
  refine ⟨_, (pss_cons (ps_if (PW.pt (pw_or (pt_not (pt_val (pe_cal C_is_less (hr.mono (by omega)) (by rfl) (pa_cons (pe_ix (ix_tupK (K := K) rfl) (pe_ix (ix_listK (K := K) rfl) (pv 0) (pv 2) (fun _ _ => rfl)) pe_int (fun _ _ => rfl)) (pa_cons (pe_ix (ix_tupK (K := K) rfl) (pe_ix (ix_listK (K := K) rfl) (pv 0) (pv 1) (fun _ _ => rfl)) pe_int (fun _ _ => rfl)) pa_nil))))) (pw_or1 (pt_not (pt_val (pe_cal C_is_less (hr.mono (by omega)) (by rfl) (pa_cons (pe_ix (ix_tupK (K := K) rfl) (pe_ix (ix_listK (K := K) rfl) (pv 0) (pv 1) (fun _ _ => rfl)) pe_int (fun _ _ => rfl)) (pa_cons (pe_ix (ix_tupK (K := K) rfl) (pe_ix (ix_listK (K := K) rfl) (pv 0) (pv 3) (fun _ _ => rfl)) pe_int (fun _ _ => rfl)) pa_nil)))))))) (pss_one (ps_ret pe_bl)) pss_nil)
      (pss_one (ps_ret (pe_not (pe_cal C_is_less (hr.mono (by omega)) (by rfl) (pa_cons (pe_ix (ix_tupK (K := K) rfl) (pe_cal C_meeting (hr.mono (by omega)) (by rfl) (pa_cons (pe_ix (ix_listK (K := K) rfl) (pv 0) (pv 2) (fun _ _ => rfl)) (pa_cons (pe_ix (ix_listK (K := K) rfl) (pv 0) (pv 1) (fun _ _ => rfl)) pa_nil))) pe_int (fun _ _ => rfl)) (pa_cons (pe_ix (ix_tupK (K := K) rfl) (pe_cal C_meeting (hr.mono (by omega)) (by rfl) (pa_cons (pe_ix (ix_listK (K := K) rfl) (pv 0) (pv 3) (fun _ _ => rfl)) (pa_cons (pe_ix (ix_listK (K := K) rfl) (pv 0) (pv 1) (fun _ _ => rfl)) pa_nil))) pe_int (fun _ _ => rfl)) pa_nil))))))), ?_⟩
  refine s_seq (s_if (et_or (et_not (et_B (ev_is_less (szb (hf _).2) (szb (hf _).2) (ev_sl (ev_line (ev_var rfl) (ev_var rfl).p ha)).p (ev_sl (ev_line (ev_var rfl) (ev_var rfl).p hx)).p))) (fun _ => et_not (et_B (ev_is_less (szb (hf _).2) (szb (hf _).2) (ev_sl (ev_line (ev_var rfl) (ev_var rfl).p hx)).p (ev_sl (ev_line (ev_var rfl) (ev_var rfl).p hb)).p)))) (fun h => s_ret ev_bl ?_) (fun h => s_next ?_))
  · unfold joint
    by_cases c1 : (f a).2 < (f x).2
    · by_cases c2 : (f x).2 < (f b).2
      · simp [c1, c2] at h
      · rw [decide_eq_false c2, Bool.and_false, Bool.false_and]
    · rw [decide_eq_false c1, Bool.false_and, Bool.false_and]
  · have c1 : (f a).2 < (f x).2 := by
      by_cases c1 : (f a).2 < (f x).2
      · exact c1
      · simp [c1] at h
    have c2 : (f x).2 < (f b).2 := by
      by_cases c2 : (f x).2 < (f b).2
      · exact c2
      · simp [c2] at h
    have n1 : (f a).2 ≠ (f x).2 := fun z => Rat.lt_irrefl (z ▸ c1)
    have n2 : (f b).2 ≠ (f x).2 := fun z => Rat.lt_irrefl (z ▸ c2)
    refine s_ret (ev_notV (ev_is_less (szb (meet_sz (hf _) (hf _) n1)) (szb (meet_sz (hf _) (hf _) n2)) (ev_meet1 n1 (ev_meeting (hf _) (hf _) (ev_line (ev_var rfl) (ev_var rfl).p ha).p (ev_line (ev_var rfl) (ev_var rfl).p hx).p)).p (ev_meet1 n2 (ev_meeting (hf _) (hf _) (ev_line (ev_var rfl) (ev_var rfl).p hb).p (ev_line (ev_var rfl) (ev_var rfl).p hx).p)).p)) ?_
    unfold joint
    rw [decide_eq_true c1, decide_eq_true c2]; rfl
theorem ev_are_joint {n : Nat} {f : Nat → Ln} {x a b : Nat} (hf : SzF f) (hx : x < n) (ha : a < n) (hb : b < n) (h1 : EvP K B ta G (linesD n f)) (h2 : EvP K B tb G (.int (x : Int))) (h3 : EvP K B tt G (.int (a : Int))) (h4 : EvP K B td G (.int (b : Int))) :
    Ev K B (tCall (SpI K R_are_joint) [] E0 (tCons ta (tCons tb (tCons tt (tCons td tNil))))) G (.bool (joint f x a b)) := ev_call (eap_cons h1 (eap_cons h2 (eap_cons h3 (eap_cons h4 eap_nil)))) ⟨n, f, x, a, b, hf, hx, ha, hb, rfl, rfl⟩ rfl
def R_is_cover (ds : List PD) (d : PD) : Prop := ∃ (n : Nat) (f : Nat → Ln) (x a b : Nat), SzF f ∧ n ≤ 100 ∧ x < n ∧ a < n ∧ b < n ∧ ds = [linesD n f, .int (x : Int), .int (a : Int), .int (b : Int)] ∧ d = .bool (isCover f x a b)
abbrev s_is_cover : Stmt := topS 37
theorem sc_is_cover : FnScope ["lines", "runner", "one", "other", "number"] ["lines", "runner", "one", "other"] (defScope s_is_cover) := ⟨rfl, rfl, rfl, by decide +kernel, rfl, by decide +kernel, by decide +kernel⟩
theorem ok_is_cover (D : Df K mg "is_cover" s_is_cover ["lines", "runner", "one", "other"]) (T : Txt mg) (C_is_always_ahead : Cal P w K mg base 6 "is_always_ahead" ["lines", "one", "runner"] (SpI K R_is_always_ahead)) (C_are_joint : Cal P w K mg base 5 "are_joint" ["lines", "runner", "one", "other"] (SpI K R_are_joint)) :
    Cal P w K mg base 7 "is_cover" ["lines", "runner", "one", "other"] (SpI K R_is_cover) := by
  refine Cal.ofI D sc_is_cover (by decide) (fun ds d h => by obtain ⟨n, f, x, a, b, _, _, _, _, _, rfl, _⟩ := h; rfl) (fun f cdv A outer s H E hr ds d h => ?_)
  obtain ⟨n, f, x, a, b, hf, hn, hx, ha, hb, rfl, rfl⟩ := h
  refine ⟨_, (pss_cons (ps_for PassesOwn.never rfl (pi_tup (pe_tup (pa_cons (pv 2) (pa_cons (pv 3) pa_nil)))) (pg_name (i := 4) sc_is_cover.nd rfl (.inl rfl)) (pss_one (ps_if (PW.pt (pw_or (pt_cmpR (op_eqD hr.units) (pv 4) (pv 1) (nomark _)) (pw_or1 (pt_not (pt_chain op_le op_lt pe_int (pv 4) (pe_callB call_len_seq (by rfl) T.z_len boot_len (pa_cons (pv 0) pa_nil))))))) (pss_one (ps_ret pe_bl)) pss_nil)))
      (pss_cons (ps_if (PW.pt (pw_or (pt_val (pe_cal C_is_always_ahead (hr.mono (by omega)) (by rfl) (pa_cons (pv 0) (pa_cons (pv 2) (pa_cons (pv 1) pa_nil))))) (pw_or1 (pt_val (pe_cal C_is_always_ahead (hr.mono (by omega)) (by rfl) (pa_cons (pv 0) (pa_cons (pv 3) (pa_cons (pv 1) pa_nil)))))))) (pss_one (ps_ret pe_bl)) pss_nil)
      (pss_one (ps_ret (pe_or (pe_cal C_are_joint (hr.mono (by omega)) (by rfl) (pa_cons (pv 0) (pa_cons (pv 1) (pa_cons (pv 2) (pa_cons (pv 3) pa_nil))))) (pe_one (pe_cal C_are_joint (hr.mono (by omega)) (by rfl) (pa_cons (pv 0) (pa_cons (pv 1) (pa_cons (pv 3) (pa_cons (pv 2) pa_nil))))))))))), ?_⟩
  refine s_seqM (M := fun G => a ≠ x ∧ b ≠ x ∧ ∃ s4, G = [.im (linesD n f), .im (.int (x : Int)), .im (.int (a : Int)), .im (.int (b : Int)), s4])
    (s_forT (ds := [.int (a : Int), .int (b : Int)]) (ev_tup (ea_cons (ev_var rfl) (ea_cons (ev_var rfl) ea_nil))) (fun i G => (1 ≤ i → a ≠ x) ∧ (2 ≤ i → b ≠ x) ∧ ∃ s4, G = [.im (linesD n f), .im (.int (x : Int)), .im (.int (a : Int)), .im (.int (b : Int)), s4])
      ⟨fun z => absurd z (by decide), fun z => absurd z (by decide), _, rfl⟩ ?_ (fun G h => ⟨h.1 (by show 1 ≤ 2; decide), h.2.1 (by show 2 ≤ 2; decide), h.2.2⟩)) ?_
  · rintro i d G hd ⟨ha', hb', s4, rfl⟩
    obtain ⟨y, hyn, hy, rfl⟩ : ∃ y : Nat, y < n ∧ (y = if i = 0 then a else b) ∧ d = .int (y : Int) := by
      match i, hd with
      | 0, hd => exact ⟨a, ha, rfl, (Option.some.inj hd).symm⟩
      | 1, hd => exact ⟨b, hb, rfl, (Option.some.inj hd).symm⟩
      | i + 2, hd => simp at hd
    have hi2 : i < 2 := by
      have := (List.getElem?_eq_some_iff.mp hd).1
      simpa using this
    refine ⟨[4], _, tg_name (by simp), ?_⟩
    refine s_if (b := decide (y = x)) ((et_or (et_test (ev_eq_int (ev_var rfl).p (ev_var rfl).p)) (fun _ => et_not (et_test (ev_chain ev_int.p (ev_var rfl).p (ev_lenL (ev_var rfl).p).p)))).is ?_) (fun hb2 => s_ret ev_bl ?_) (fun hb2 => s_next ?_)
    · have e1 : decide ((0 : Int) ≤ (y : Int)) = true := decide_eq_true (by omega)
      have e2 : decide ((y : Int) < (n : Int)) = true := decide_eq_true (by omega)
      have e3 : decide ((y : Int) = (x : Int)) = decide (y = x) := by rw [decide_eq_decide]; omega
      rw [e1, e2, e3]
      cases decide (y = x) <;> rfl
    · have hyx : y = x := of_decide_eq_true hb2
      have : isCover f x a b = false := by
        unfold isCover
        by_cases c : i = 0
        · rw [if_pos c] at hy
          rw [decide_eq_true (hy.symm.trans hyx)]; rfl
        · rw [if_neg c] at hy
          rw [decide_eq_true (hy.symm.trans hyx)]; simp
      rw [this]
    · have hyx : y ≠ x := of_decide_eq_false hb2
      refine ⟨fun _ => ?_, fun h2 => ?_, _, rfl⟩
      · by_cases c : i = 0
        · rw [if_pos c] at hy; rw [← hy]; exact hyx
        · exact ha' (by omega)
      · rw [if_neg (by omega)] at hy; rw [← hy]; exact hyx
  · rintro G ⟨nax, nbx, s4, rfl⟩
    have e : isCover f x a b = (always f a x || always f b x || joint f x a b || joint f x b a) := by
      unfold isCover
      rw [decide_eq_false nax, decide_eq_false nbx]; rfl
    rw [e]
    refine s_seq (s_if (et_or (et_B (ev_is_always_ahead hf ha hx (ev_var rfl).p (ev_var rfl).p (ev_var rfl).p)) (fun _ => et_B (ev_is_always_ahead hf hb hx (ev_var rfl).p (ev_var rfl).p (ev_var rfl).p))) (fun h => s_ret ev_bl ?_) (fun h => s_next (s_ret (ev_orV (ev_are_joint hf hx ha hb (ev_var rfl).p (ev_var rfl).p (ev_var rfl).p (ev_var rfl).p) (fun _ => ev_are_joint hf hx hb ha (ev_var rfl).p (ev_var rfl).p (ev_var rfl).p (ev_var rfl).p)) ?_)))
    · rw [h]; rfl
    · rw [h]; rfl
theorem ev_is_cover {n : Nat} {f : Nat → Ln} {x a b : Nat} (hf : SzF f) (hn : n ≤ 100) (hx : x < n) (ha : a < n) (hb : b < n) (h1 : EvP K B ta G (linesD n f)) (h2 : EvP K B tb G (.int (x : Int))) (h3 : EvP K B tt G (.int (a : Int))) (h4 : EvP K B td G (.int (b : Int))) :
    Ev K B (tCall (SpI K R_is_cover) [] E0 (tCons ta (tCons tb (tCons tt (tCons td tNil))))) G (.bool (isCover f x a b)) := ev_call (eap_cons h1 (eap_cons h2 (eap_cons h3 (eap_cons h4 eap_nil)))) ⟨n, f, x, a, b, hf, hn, hx, ha, hb, rfl, rfl⟩ rfl
end
end PF

-- P11
set_option linter.all false
set_option maxRecDepth 100000
set_option maxHeartbeats 2000000
namespace PF
open PySem PySem.Spec PyProof.Rows L2 LT
section
variable {P : Program} {w : World} {K : PySem.W.Frag} {mg : Str → Option Value} {base : Heap} {B : Hp} {G : List Sl} {te ta tb tt td : TE}
/-! nearest -/
def nearD : Option (Nat × Nat × Rat) → PD
  | none => .none
  | some p => .tuple [.int (p.1 : Int), .int (p.2.1 : Int), nm p.2.2]
theorem nearD_noL (o : Option (Nat × Nat × Rat)) : noL (nearD o) = true := by cases o <;> rfl
theorem shp_near (o : Option (Nat × Nat × Rat)) : Shp 2 (nearD o) := by
  cases o with
  | none => exact shp_mono shp_non (by decide)
  | some p => exact shp_trip (shp_mono (shp_int _) (by decide)) (shp_mono (shp_int _) (by decide)) (shp_nm _)
def R_nearest (ds : List PD) (d : PD) : Prop := ∃ (n : Nat) (f : Nat → Ln) (t : Rat), SzF f ∧ Sz 600 t ∧ n ≤ 100 ∧ ds = [linesD n f, nm t] ∧ d = nearD (nearest n f t)
abbrev s_nearest : Stmt := topS 21
theorem sc_nearest : FnScope ["lines", "time", "order", "best", "one", "other", "gap"] ["lines", "time"] (defScope s_nearest) := ⟨rfl, rfl, rfl, by decide +kernel, rfl, by decide +kernel, by decide +kernel⟩
theorem drop1_at {l : List Nat} {i : Nat} {e : PD} (h : ((natsD l).drop 1)[i]? = some e) : i + 1 < l.length ∧ e = .int (l.getD (i + 1) 0 : Nat) := by
  rw [List.getElem?_drop, Nat.add_comm] at h
  have hk : i + 1 < l.length := by
    have := (List.getElem?_eq_some_iff.mp h).1
    rw [natsD_len] at this
    exact this
  rw [natsD_at hk] at h
  exact ⟨hk, (Option.some.inj h).symm⟩
theorem nats_at {l : List Nat} {i : Nat} {e : PD} (h : (natsD l)[i]? = some e) : i < l.length ∧ e = .int (l.getD i 0 : Nat) := by
  have hk : i < l.length := by
    have := (List.getElem?_eq_some_iff.mp h).1
    rw [natsD_len] at this
    exact this
  rw [natsD_at hk] at h
  exact ⟨hk, (Option.some.inj h).symm⟩
theorem near_sz {f : Nat → Ln} {t : Rat} (hf : SzF f) (ht : Sz 600 t) : ∀ (l : List (Nat × Nat)) (b : Option (Nat × Nat × Rat)), (∀ x, b = some x → Sz 1700 x.2.2) → ∀ x, l.foldl (nearStep f t) b = some x → Sz 1700 x.2.2
  | [], b, h, x, e => h x e
  | p :: l, b, h, x, e => by
    refine near_sz hf ht l (nearStep f t b p) (fun y hy => ?_) x e
    have hg : Sz 1700 (place (f p.1) t - place (f p.2) t) := sz_mono (sz_sub (place_sz (hf _) ht) (place_sz (hf _) ht)) (by decide)
    unfold nearStep at hy
    cases b with
    | none => cases hy; exact hg
    | some b =>
      simp only at hy
      split at hy
      · cases hy; exact hg
      · cases hy; exact h _ rfl
theorem ok_nearest (D : Df K mg "nearest" s_nearest ["lines", "time"]) (T : Txt mg) (C_order_at : Cal P w K mg base 6 "order_at" ["lines", "time"] (SpO K R_order_at)) (C_difference_of : Cal P w K mg base 3 "difference_of" ["a", "b"] (SpI K R_difference_of)) (C_place_at : Cal P w K mg base 4 "place_at" ["line", "time"] (SpI K R_place_at)) (C_is_less : Cal P w K mg base 1 "is_less" ["a", "b"] (SpI K R_is_less)) :
    Cal P w K mg base 7 "nearest" ["lines", "time"] (SpI K R_nearest) := by
  refine Cal.ofI D sc_nearest (by decide) (fun ds d h => by obtain ⟨n, f, t, _, _, _, rfl, _⟩ := h; rfl) (fun f cdv A outer s H E hr ds d h => ?_)
  obtain ⟨n, f, t, hf, ht, hn, rfl, rfl⟩ := h
  refine ⟨_, (pss_cons (ps_set (i := 2) sc_nearest.nd rfl (.inl rfl) (pe_cal C_order_at (hr.mono (by omega)) (by rfl) (pa_cons (pv 0) (pa_cons (pv 1) pa_nil))))
      (pss_cons (ps_set (i := 3) sc_nearest.nd rfl (.inl rfl) pe_non)
      (pss_cons (ps_for PassesOwn.never rfl (pi_zip (by rfl) T.z_zip (pa_cons (pv 2) (pa_cons (pe_slice sl_list (pv 2) (po_some pe_int) po_none) pa_nil))) (pg_tupK (K := K) 2 rfl rfl (pgs_cons (pg_name (i := 4) sc_nearest.nd rfl (.inl rfl)) (pgs_cons (pg_name (i := 5) sc_nearest.nd rfl (.inl rfl)) pgs_nil))) (pss_cons (ps_set (i := 6) sc_nearest.nd rfl (.inl rfl) (pe_cal C_difference_of (hr.mono (by omega)) (by rfl) (pa_cons (pe_cal C_place_at (hr.mono (by omega)) (by rfl) (pa_cons (pe_ix (ix_listK (K := K) rfl) (pv 0) (pv 4) (fun _ _ => rfl)) (pa_cons (pv 1) pa_nil))) (pa_cons (pe_cal C_place_at (hr.mono (by omega)) (by rfl) (pa_cons (pe_ix (ix_listK (K := K) rfl) (pv 0) (pv 5) (fun _ _ => rfl)) (pa_cons (pv 1) pa_nil))) pa_nil))))
      (pss_one (ps_if (PW.pt (pw_or (pt_cmpR op_isN (pv 3) pe_non (nomark _)) (pw_or1 (pt_val (pe_cal C_is_less (hr.mono (by omega)) (by rfl) (pa_cons (pv 6) (pa_cons (pe_ix (ix_tupK (K := K) rfl) (pv 3) pe_int (fun _ _ => rfl)) pa_nil))))))) (pss_one (ps_set (i := 3) sc_nearest.nd rfl (.inl rfl) (pe_tup (pa_cons (pv 4) (pa_cons (pv 5) (pa_cons (pv 6) pa_nil)))))) pss_nil))))
      (pss_one (ps_ret (pv 3)))))), ?_⟩
  have hlen := order_len n f t
  have hlt : ∀ k, k < (order n f t).length → (order n f t).getD k 0 < n := fun k hk => order_mem.mp (mem_getD hk)
  refine s_seq (s_setO (eo_order_at hf ht hn (ev_var rfl).p (ev_var rfl).p) (natsD_noL _) (fun a _ => ?_))
  unfold nearest
  generalize order n f t = ord at *
  refine s_seq (s_set ev_non (s_seqM (M := fun G => ∃ s4 s5 s6, G = [.im (linesD n f), .im (nm t), .ow a (natsD ord), .im (nearD ((pairsOf ord).foldl (nearStep f t) none)), s4, s5, s6])
    (s_forZ (j := 2) (ds := natsD ord) (eo_from1 (ep_var rfl)) (noLs_iff.mpr fun d hd => noLs_iff.mp (natsD_noL ord) d (List.mem_of_mem_drop hd)) (fun i G => ∃ s4 s5 s6, G = [.im (linesD n f), .im (nm t), .ow a (natsD ord), .im (nearD (((pairsOf ord).take i).foldl (nearStep f t) none)), s4, s5, s6]) ⟨_, _, _, rfl⟩ (fun i G h => by obtain ⟨_, _, _, rfl⟩ := h; rfl) (natsD_noL _) ?_ (fun G h => ?_)) ?_))
  · rintro i d e G hd he ⟨s4, s5, s6, rfl⟩
    obtain ⟨h1, rfl⟩ := nats_at hd
    obtain ⟨h2, rfl⟩ := drop1_at he
    have hp := pairsOf_get h2
    have l1 := hlt i h1
    have l2 := hlt (i + 1) h2
    have s1 := place_sz (hf (ord.getD i 0)) ht
    have s2 := place_sz (hf (ord.getD (i + 1) 0)) ht
    have s3 := sz_sub s1 s2
    rw [List.take_add_one, hp, List.foldl_append]
    have hb := near_sz hf ht ((pairsOf ord).take i) none (fun x z => (nomatch z))
    generalize ((pairsOf ord).take i).foldl (nearStep f t) none = best at *
    refine ⟨[4, 5], _, tg_pair (by simp) (by simp), ?_⟩
    refine s_seq (s_set (ev_difference_of (szb s1) (szb s2) (ev_place_at (hf _) ht (ev_line (ev_var rfl) (ev_var rfl).p l1).p (ev_var rfl).p).p (ev_place_at (hf _) ht (ev_line (ev_var rfl) (ev_var rfl).p l2).p (ev_var rfl).p).p) ?_)
    show St K H _ _ (fun G => ∃ s4 s5 s6, G = [.im (linesD n f), .im (nm t), .ow a (natsD ord), .im (nearD (nearStep f t best (ord.getD i 0, ord.getD (i + 1) 0))), s4, s5, s6]) _
    cases best with
    | none =>
      refine s_if (b := true) ((et_or (b := false) (et_test (ev_op (ev_var rfl).p ev_non.p op_is')) (fun z => absurd z (by decide))).is rfl) (fun _ => s_set (ev_tup (ea_cons (ev_var rfl) (ea_cons (ev_var rfl) (ea_cons (ev_var rfl) ea_nil)))) ⟨_, _, _, rfl⟩) (fun z => nomatch z)
    | some b =>
      refine s_if (b := decide (place (f (ord.getD i 0)) t - place (f (ord.getD (i + 1) 0)) t < b.2.2)) ((et_or (et_test (ev_op (ev_var rfl).p ev_non.p op_is')) (fun _ => et_B (ev_is_less (szb s3) (szb (hb b rfl)) (ev_var rfl).p (ev_ixT (ds := [.int (b.1 : Int), .int (b.2.1 : Int), nm b.2.2]) (ev_var rfl) ev_int.p rfl).p))).is rfl)
        (fun h => s_set (ev_tup (ea_cons (ev_var rfl) (ea_cons (ev_var rfl) (ea_cons (ev_var rfl) ea_nil)))) ?_) (fun h => s_next ?_)
      · have : nearStep f t (some b) (ord.getD i 0, ord.getD (i + 1) 0) = some (ord.getD i 0, ord.getD (i + 1) 0, place (f (ord.getD i 0)) t - place (f (ord.getD (i + 1) 0)) t) := if_pos (of_decide_eq_true h)
        rw [this]; exact ⟨_, _, _, rfl⟩
      · have : nearStep f t (some b) (ord.getD i 0, ord.getD (i + 1) 0) = some b := if_neg (of_decide_eq_false h)
        rw [this]; exact ⟨_, _, _, rfl⟩
  · obtain ⟨s4, s5, s6, rfl⟩ := h
    have e : (pairsOf ord).take (min (natsD ord).length ((natsD ord).drop 1).length) = pairsOf ord := List.take_of_length_le (by rw [pairsOf_len, List.length_drop, natsD_len]; omega)
    rw [e]; exact ⟨_, _, _, rfl⟩
  · rintro G ⟨s4, s5, s6, rfl⟩
    exact s_ret (ev_var rfl) rfl
theorem ev_nearest {n : Nat} {f : Nat → Ln} {t : Rat} (hf : SzF f) (ht : Sz 600 t) (hn : n ≤ 100) (h1 : EvP K B ta G (linesD n f)) (h2 : EvP K B tb G (nm t)) : Ev K B (tCall (SpI K R_nearest) [] E0 (tCons ta (tCons tb tNil))) G (nearD (nearest n f t)) := ev_call (eap_cons h1 (eap_cons h2 eap_nil)) ⟨n, f, t, hf, ht, hn, rfl, rfl⟩ (nearD_noL _)
/-! papers_at -/
def papD (p : Nat × Nat × Option Rat) : PD := .tuple [.int (p.1 : Int), .int (p.2.1 : Int), optD p.2.2]
theorem papD_noL (p : Nat × Nat × Option Rat) : noL (papD p) = true := by
  show noL.noLs [.int (p.1 : Int), .int (p.2.1 : Int), optD p.2.2] = true
  simp [noL.noLs, noL, optD_noL]
theorem shp_paps (l : List (Nat × Nat × Option Rat)) : Shp 3 (.list (l.map papD)) := shp_lst fun d hd => by
  obtain ⟨x, _, rfl⟩ := List.mem_map.mp hd
  exact shp_trip (shp_mono (shp_int _) (by decide)) (shp_mono (shp_int _) (by decide)) (shp_opt _)
def R_papers_at (ds : List PD) (es : List PD) : Prop := ∃ (n : Nat) (f : Nat → Ln) (t : Rat), SzF f ∧ Sz 600 t ∧ n ≤ 100 ∧ ds = [linesD n f, nm t] ∧ es = (papersAt n f t).map papD
abbrev s_papers_at : Stmt := topS 39
theorem sc_papers_at : FnScope ["lines", "time", "order", "one", "other"] ["lines", "time"] (defScope s_papers_at) := ⟨rfl, rfl, rfl, by decide +kernel, rfl, by decide +kernel, by decide +kernel⟩
theorem ok_papers_at (D : Df K mg "papers_at" s_papers_at ["lines", "time"]) (T : Txt mg) (C_order_at : Cal P w K mg base 6 "order_at" ["lines", "time"] (SpO K R_order_at)) (C_next_change : Cal P w K mg base 5 "next_change" ["lines", "one", "other", "time"] (SpI K R_next_change)) :
    Cal P w K mg base 7 "papers_at" ["lines", "time"] (SpO K R_papers_at) := by
  refine Cal.ofO D sc_papers_at (by decide) (fun ds d h => by obtain ⟨n, f, t, _, _, _, rfl, _⟩ := h; rfl) (fun f cdv A outer s H E hr ds d h => ?_)
  obtain ⟨n, f, t, hf, ht, hn, rfl, rfl⟩ := h
  refine ⟨_, (pss_cons (ps_set (i := 2) sc_papers_at.nd rfl (.inl rfl) (pe_cal C_order_at (hr.mono (by omega)) (by rfl) (pa_cons (pv 0) (pa_cons (pv 1) pa_nil))))
      (pss_one (ps_ret (pe_lc (own := [("one", 3), ("other", 4)]) (tt := tYes) rfl sc_papers_at.nd (pi_zip (by rfl) T.z_zip (pa_cons (pv 2) (pa_cons (pe_slice sl_list (pv 2) (po_some pe_int) po_none) pa_nil))) (blkOk_by (own := [("one", 3), ("other", 4)]) (N := ["lines", "time", "order", "one", "other"]) (sc := defScope (topS 39)) (by decide +kernel)) (fun _ _ _ _ _ => (pg_tupK (K := K) 2 rfl rfl (pgs_cons (pg_name (i := 3) sc_papers_at.nd rfl (.inl rfl) (.inr rfl)) (pgs_cons (pg_name (i := 4) sc_papers_at.nd rfl (.inl rfl) (.inr rfl)) pgs_nil)))) (fun _ _ _ _ _ => pts_nil) (fun _ _ _ _ _ => (pe_tup (pa_cons (pv 3) (pa_cons (pv 4) (pa_cons (pe_cal C_next_change (hr.mono (by omega)) (by rfl) (pa_cons (pv 0) (pa_cons (pv 3) (pa_cons (pv 4) (pa_cons (pv 1) pa_nil))))) pa_nil))))))))), ?_⟩
  have hlen := order_len n f t
  have hlt : ∀ k, k < (order n f t).length → (order n f t).getD k 0 < n := fun k hk => order_mem.mp (mem_getD hk)
  refine s_seq (s_setO (eo_order_at hf ht hn (ev_var rfl).p (ev_var rfl).p) (natsD_noL _) (fun a _ => ?_))
  unfold papersAt
  generalize order n f t = ord at *
  refine s_retO (eo_lcZ (ds := natsD ord) (ds' := (natsD ord).drop 1) (eap_cons (ep_var rfl) (eap_cons (eo_from1 (ep_var rfl)).p eap_nil)) (by rw [natsD_len]; exact small_sz (by omega)) ?_ (fun B' k d d' e h1 h2 h3 => ?_)) ?_ rfl
  · rw [List.length_map, List.length_map, pairsOf_len, List.length_drop, natsD_len]; omega
  · obtain ⟨g1, rfl⟩ := nats_at h1
    obtain ⟨g2, rfl⟩ := drop1_at h2
    rw [List.map_map, List.getElem?_map, pairsOf_get g2] at h3
    cases h3
    exact ⟨_, tg_pair (by decide) (by decide), ev_tup (ea_cons (ev_var rfl) (ea_cons (ev_var rfl) (ea_cons (ev_next_change hf ht (hlt k g1) (hlt (k + 1) g2) (ev_var rfl).p (ev_var rfl).p (ev_var rfl).p (ev_var rfl).p) ea_nil)))⟩
  · exact noLs_iff.mpr fun d hd => by
      obtain ⟨x, _, rfl⟩ := List.mem_map.mp hd
      exact papD_noL x
theorem eo_papers_at {n : Nat} {f : Nat → Ln} {t : Rat} (hf : SzF f) (ht : Sz 600 t) (hn : n ≤ 100) (h1 : EvP K B ta G (linesD n f)) (h2 : EvP K B tb G (nm t)) : EvO K B (tCall (SpO K R_papers_at) [] E0 (tCons ta (tCons tb tNil))) G ((papersAt n f t).map papD) := eo_call (eap_cons h1 (eap_cons h2 eap_nil)) ⟨n, f, t, hf, ht, hn, rfl, rfl⟩
end
end PF

-- P12
set_option linter.all false
set_option maxRecDepth 100000
set_option maxHeartbeats 2000000
namespace PF
open PySem PySem.Spec PyProof.Rows L2 LT
/-! ### changes: a list of pairs (time, list), changed by put_in -/
def prD (p : Nat × Nat) : PD := .tuple [.int (p.1 : Int), .int (p.2 : Int)]
def chD (cs : List Ch) : PD := .list (cs.map fun c => .tuple [nm c.1, .list (c.2.map prD)])
theorem shp_pr (p : Nat × Nat) : Shp 1 (prD p) := shp_pair (shp_int _) (shp_int _)
theorem shp_ch (cs : List Ch) : Shp 4 (chD cs) := shp_lst fun d hd => by
  obtain ⟨c, _, rfl⟩ := List.mem_map.mp hd
  refine shp_pair (shp_mono (shp_nm _) (by decide)) (shp_lst fun e he => ?_)
  obtain ⟨x, _, rfl⟩ := List.mem_map.mp he
  exact shp_pr x
def ChIt (K : PySem.W.Frag) (B H : Hp) (v : V) (l : Addr) (c : Ch) : Prop := ∃ T tv ps, v = .ref T ∧ H T = some (.tup [tv, .ref l]) ∧ Dq K B H tv (nm c.1) ∧ H l = some (.lst ps) ∧ DqAll K B H ps (c.2.map prD)
def ChIs (K : PySem.W.Frag) (B H : Hp) : List V → List Addr → List Ch → Prop
  | [], [], [] => True
  | v :: xs, l :: ls, c :: cs => ChIt K B H v l c ∧ ChIs K B H xs ls cs
  | _, _, _ => False
def ChAt (K : PySem.W.Frag) (B H : Hp) (a : Addr) (cs : List Ch) : Prop := B a = none ∧ ∃ xs ls, H a = some (.lst xs) ∧ ChIs K B H xs ls cs ∧ (a :: ls).Nodup ∧ ∀ l ∈ ls, B l = none
section
variable {K : PySem.W.Frag} {B H H' : Hp}
theorem ChIt.mono {v : V} {l : Addr} {c : Ch} (ts : ∀ a xs, SqT K H a xs → SqT K H' a xs) (tt : ∀ T xs, H T = some (.tup xs) → H' T = some (.tup xs)) (hl : H' l = H l) (h : ChIt K B H v l c) : ChIt K B H' v l c := by
  obtain ⟨T, tv, ps, h1, h2, h3, h4, h5⟩ := h
  exact ⟨T, tv, ps, h1, tt _ _ h2, h3.mono ts, by rw [hl]; exact h4, h5.mono ts⟩
theorem ChIs.mono (ts : ∀ a xs, SqT K H a xs → SqT K H' a xs) (tt : ∀ T xs, H T = some (.tup xs) → H' T = some (.tup xs)) : ∀ {xs : List V} {ls : List Addr} {cs : List Ch}, (∀ l ∈ ls, H' l = H l) → ChIs K B H xs ls cs → ChIs K B H' xs ls cs
  | [], [], [], _, _ => trivial
  | v :: xs, l :: ls, c :: cs, hl, h => ⟨h.1.mono ts tt (hl l List.mem_cons_self), ChIs.mono ts tt (fun l hl' => hl l (List.mem_cons_of_mem _ hl')) h.2⟩
  | [], [], _ :: _, _, h => h.elim
  | [], _ :: _, _, _, h => h.elim
  | _ :: _, [], _, _, h => h.elim
  | _ :: _, _ :: _, [], _, h => h.elim
theorem ChIs.len : ∀ {xs : List V} {ls : List Addr} {cs : List Ch}, ChIs K B H xs ls cs → xs.length = cs.length ∧ ls.length = cs.length
  | [], [], [], _ => ⟨rfl, rfl⟩
  | v :: xs, l :: ls, c :: cs, h => by
    have := ChIs.len h.2
    simp only [List.length_cons]
    omega
  | [], [], _ :: _, h => h.elim
  | [], _ :: _, _, h => h.elim
  | _ :: _, [], _, h => h.elim
  | _ :: _, _ :: _, [], h => h.elim
theorem ChIs.app : ∀ {xs ys : List V} {ls ms : List Addr} {cs ds : List Ch}, ChIs K B H xs ls cs → ChIs K B H ys ms ds → ChIs K B H (xs ++ ys) (ls ++ ms) (cs ++ ds)
  | [], _, [], _, [], _, _, h => h
  | v :: xs, _, l :: ls, _, c :: cs, _, h, h' => ⟨h.1, ChIs.app h.2 h'⟩
  | [], _, [], _, _ :: _, _, h, _ => h.elim
  | [], _, _ :: _, _, _, _, h, _ => h.elim
  | _ :: _, _, [], _, _, _, h, _ => h.elim
  | _ :: _, _, _ :: _, _, [], _, h, _ => h.elim
theorem ChIs.split : ∀ (k : Nat) {xs : List V} {ls : List Addr} {cs : List Ch}, ChIs K B H xs ls cs → ChIs K B H (xs.take k) (ls.take k) (cs.take k) ∧ ChIs K B H (xs.drop k) (ls.drop k) (cs.drop k)
  | 0, _, _, _, h => ⟨trivial, h⟩
  | k + 1, [], [], [], _ => ⟨trivial, trivial⟩
  | k + 1, v :: xs, l :: ls, c :: cs, h => ⟨⟨h.1, (ChIs.split k h.2).1⟩, (ChIs.split k h.2).2⟩
  | _ + 1, [], [], _ :: _, h => h.elim
  | _ + 1, [], _ :: _, _, h => h.elim
  | _ + 1, _ :: _, [], _, h => h.elim
  | _ + 1, _ :: _, _ :: _, [], h => h.elim
theorem ChIs.cons_inv {xs : List V} {ls : List Addr} {c : Ch} {cs : List Ch} (h : ChIs K B H xs ls (c :: cs)) : ∃ v x2 l l2, xs = v :: x2 ∧ ls = l :: l2 ∧ ChIt K B H v l c ∧ ChIs K B H x2 l2 cs := by
  cases xs with
  | nil => cases ls <;> exact h.elim
  | cons v xs =>
    cases ls with
    | nil => exact h.elim
    | cons l ls => exact ⟨v, xs, l, ls, rfl, rfl, h.1, h.2⟩
theorem ChIs.dp (sm : Same B H) : ∀ {xs : List V} {ls : List Addr} {cs : List Ch}, ChIs K B H xs ls cs → DpAll K H xs (cs.map fun c => .tuple [nm c.1, .list (c.2.map prD)])
  | [], [], [], _ => .nil
  | v :: xs, l :: ls, c :: cs, h => by
    obtain ⟨⟨T, tv, ps, rfl, h2, h3, h4, h5⟩, h'⟩ := h
    exact .cons (.tup (.of h2) (.cons (h3.dp sm) (.cons (.lst (.of h4) (h5.dp sm)) .nil))) (ChIs.dp sm h')
  | [], [], _ :: _, h => h.elim
  | [], _ :: _, _, h => h.elim
  | _ :: _, [], _, h => h.elim
  | _ :: _, _ :: _, [], h => h.elim
theorem ChAt.dp {a : Addr} {cs : List Ch} (sm : Same B H) (h : ChAt K B H a cs) : Dp K H (.ref a) (chD cs) := by
  obtain ⟨_, xs, ls, h1, h2, _⟩ := h
  exact .lst (.of h1) (h2.dp sm)
theorem ChIs.lsts : ∀ {xs : List V} {ls : List Addr} {cs : List Ch}, ChIs K B H xs ls cs → ∀ l ∈ ls, ∃ ps, H l = some (.lst ps)
  | [], [], [], _, l, hl => nomatch hl
  | v :: xs, l :: ls, c :: cs, h, m, hm => by
    rcases List.mem_cons.mp hm with rfl | hm
    · obtain ⟨T, tv, ps, _, _, _, h4, _⟩ := h.1
      exact ⟨ps, h4⟩
    · exact ChIs.lsts h.2 m hm
  | [], [], _ :: _, h, _, _ => h.elim
  | [], _ :: _, _, h, _, _ => h.elim
  | _ :: _, [], _, h, _, _ => h.elim
  | _ :: _, _ :: _, [], h, _, _ => h.elim
theorem ChAt.ex {a : Addr} {cs : List Ch} (e : Same H H') (h : ChAt K B H a cs) : ChAt K B H' a cs := by
  obtain ⟨h0, xs, ls, h1, h2, h3, h4⟩ := h
  refine ⟨h0, xs, ls, e _ _ h1, h2.mono (fun _ _ => sqt_ex e) (fun T xs q => e _ _ q) (fun l hl => ?_), h3, h4⟩
  obtain ⟨ps, q⟩ := h2.lsts l hl
  rw [q, e _ _ q]
theorem env_ims {vs : List V} {ds : List PD} (sm : Same B H) (h : DqAll K B H vs ds) : Env K B H (vs.map some) (ds.map .im) := by
  refine ⟨sm, by simp [h.1], fun i x s h1 h2 => ?_, fun i j a es fs h1 h2 => ?_⟩
  · rw [List.getElem?_map] at h1 h2
    obtain ⟨v, e1, rfl⟩ := Option.map_eq_some_iff.mp h1
    obtain ⟨d, e2, rfl⟩ := Option.map_eq_some_iff.mp h2
    exact ⟨v, rfl, h.2 i v d e1 e2⟩
  · rw [List.getElem?_map] at h1
    obtain ⟨d, _, e⟩ := Option.map_eq_some_iff.mp h1
    cases e
end
theorem putIn_at (t : Rat) (p : Nat × Nat) : ∀ (c1 : List Ch) (c2 : List Ch), (∀ c ∈ c1, c.1 < t) → (∀ c r, c2 = c :: r → ¬ c.1 < t) → LT.putIn t p (c1 ++ c2) = c1 ++ (match c2 with | [] => [(t, [p])] | c :: r => if c.1 = t then (c.1, c.2 ++ [p]) :: r else (t, [p]) :: c :: r)
  | [], [], _, _ => rfl
  | [], (s, ps) :: r, _, h2 => by
    have := h2 _ _ rfl
    show LT.putIn t p ((s, ps) :: r) = _
    unfold LT.putIn
    rw [if_neg this]; rfl
  | (s, ps) :: c1, c2, h1, h2 => by
    have ih := putIn_at t p c1 c2 (fun c hc => h1 c (List.mem_cons_of_mem _ hc)) h2
    show LT.putIn t p ((s, ps) :: (c1 ++ c2)) = (s, ps) :: (c1 ++ _)
    conv => lhs; unfold LT.putIn
    rw [if_pos (h1 (s, ps) List.mem_cons_self), ih]
def Bd (m : Nat) (cs : List Ch) : Prop := cs.length ≤ m ∧ ∀ c ∈ cs, c.2.length ≤ m ∧ Sz 402 c.1
theorem bd_mono {m k : Nat} {cs : List Ch} (h : Bd m cs) (hk : m ≤ k) : Bd k cs := ⟨Nat.le_trans h.1 hk, fun c hc => ⟨Nat.le_trans (h.2 c hc).1 hk, (h.2 c hc).2⟩⟩
theorem bd_put {t : Rat} {p : Nat × Nat} (ht : Sz 402 t) : ∀ {cs : List Ch} {m k : Nat}, cs.length ≤ k → (∀ c ∈ cs, c.2.length ≤ m ∧ Sz 402 c.1) → (LT.putIn t p cs).length ≤ k + 1 ∧ ∀ c ∈ LT.putIn t p cs, c.2.length ≤ m + 1 ∧ Sz 402 c.1
  | [], m, k, _, _ => ⟨by simp [LT.putIn], fun c hc => by
    have : c = (t, [p]) := by simpa [LT.putIn] using hc
    subst this
    exact ⟨by simp, ht⟩⟩
  | (s, ps) :: r, m, k, hk, h => by
    have hs := h (s, ps) List.mem_cons_self
    have hr := fun c hc => h c (List.mem_cons_of_mem _ hc)
    simp only [List.length_cons] at hk
    unfold LT.putIn
    by_cases c1 : s < t
    · rw [if_pos c1]
      obtain ⟨i1, i2⟩ := bd_put (p := p) (cs := r) (m := m) (k := k - 1) ht (by omega) hr
      refine ⟨by simp only [List.length_cons]; omega, fun c hc => ?_⟩
      rcases List.mem_cons.mp hc with rfl | hc
      · exact ⟨by have := hs.1; simp only at *; omega, hs.2⟩
      · exact i2 c hc
    · rw [if_neg c1]
      by_cases c2 : s = t
      · rw [if_pos c2]
        refine ⟨by simp only [List.length_cons]; omega, fun c hc => ?_⟩
        rcases List.mem_cons.mp hc with rfl | hc
        · exact ⟨by have := hs.1; simp only [List.length_append, List.length_singleton] at *; omega, hs.2⟩
        · exact ⟨by have := (hr c hc).1; omega, (hr c hc).2⟩
      · rw [if_neg c2]
        refine ⟨by simp only [List.length_cons]; omega, fun c hc => ?_⟩
        rcases List.mem_cons.mp hc with rfl | hc
        · exact ⟨by simp, ht⟩
        · exact ⟨by have := (h c hc).1; omega, (h c hc).2⟩
/-- put_in's promise -/
def SpPut (K : PySem.W.Frag) : Sp := fun vs H Q _ => ∃ (B : Hp) (a : Addr) (cs : List Ch) (tv pp : V) (t : Rat) (p : Nat × Nat), vs = [.ref a, tv, pp] ∧ Same B H ∧ ChAt K B H a cs ∧ Dq K B H tv (nm t) ∧ Dq K B H pp (prD p) ∧ Sz 402 t ∧ Bd 20000 cs ∧
  ∀ H', ChAt K B H' a (LT.putIn t p cs) → Same B H' → (∀ b xs, SqT K H b xs → SqT K H' b xs) → Q .non H'
section
variable {P : Program} {w : World} {K : PySem.W.Frag} {mg : Str → Option Value} {base : Heap} {B : Hp} {G : List Sl} {te ta tb tt td : TE}
abbrev s_put_in : Stmt := topS 23
theorem sc_put_in : FnScope ["found", "time", "pair", "at"] ["found", "time", "pair"] (defScope s_put_in) := ⟨rfl, rfl, rfl, by decide +kernel, rfl, by decide +kernel, by decide +kernel⟩
theorem big_sz {n : Nat} (h : n ≤ 30000) : n < sizeLine := Nat.lt_of_le_of_lt h (by decide)
/-- the pair's own list grows -/
theorem put_end {B H : Hp} {a l : Addr} {x1 x2 : List V} {v : V} {l1 l2 : List Addr} {c1 c2 : List Ch} {t : Rat} {ps : List (Nat × Nat)} {p : Nat × Nat} {pp : V} {ls : List V} (sm : Same B H) (h0 : B a = none) (ha : H a = some (.lst (x1 ++ v :: x2))) (i1 : ChIs K B H x1 l1 c1) (i2 : ChIs K B H x2 l2 c2)
    (iv : ChIt K B H v l (t, ps)) (nd : (a :: (l1 ++ l :: l2)).Nodup) (hb : ∀ m ∈ l1 ++ l :: l2, B m = none) (hp : Dq K B H pp (prD p)) (hl : H l = some (.lst ls)) :
    ChAt K B (upd H l (.lst (ls ++ [pp]))) a (c1 ++ (t, ps ++ [p]) :: c2) ∧ Same B (upd H l (.lst (ls ++ [pp]))) := by
  have hbl : B l = none := hb l (by simp)
  have ts := upd_sqt (K := K) (o := .lst (ls ++ [pp])) hl
  have tt : ∀ T xs, H T = some (.tup xs) → (upd H l (.lst (ls ++ [pp]))) T = some (.tup xs) := fun T xs q => by
    rw [upd_ne (by rintro rfl; rw [hl] at q; cases q)]; exact q
  have nd' := List.nodup_cons.mp nd
  have nal : a ≠ l := fun z => nd'.1 (by rw [z]; simp)
  have nd2 := List.nodup_append.mp nd'.2
  have nd3 := List.nodup_cons.mp nd2.2.1
  have k1 : ∀ m ∈ l1, (upd H l (.lst (ls ++ [pp]))) m = H m := fun m hm => upd_ne fun z => nd2.2.2 m hm l List.mem_cons_self z
  have k2 : ∀ m ∈ l2, (upd H l (.lst (ls ++ [pp]))) m = H m := fun m hm => upd_ne fun z => nd3.1 (z ▸ hm)
  obtain ⟨T, tv, qs, rfl, h2, h3, h4, h5⟩ := iv
  rw [hl] at h4
  cases h4
  refine ⟨⟨h0, x1 ++ .ref T :: x2, l1 ++ l :: l2, by rw [upd_ne nal]; exact ha, (i1.mono ts tt k1).app ⟨⟨T, tv, ls ++ [pp], rfl, tt _ _ h2, h3.mono ts, upd_same, ?_⟩, i2.mono ts tt k2⟩, nd, hb⟩, fun b o e => ?_⟩
  · show DqAll K B _ (ls ++ [pp]) ((ps ++ [p]).map prD)
    rw [List.map_append]
    exact (h5.mono ts).snoc (hp.mono ts)
  · rw [upd_ne (by rintro rfl; rw [hbl] at e; cases e)]; exact sm b o e
theorem ok_put_in (D : Df K mg "put_in" s_put_in ["found", "time", "pair"]) (T : Txt mg) (C_is_less : Cal P w K mg base 1 "is_less" ["a", "b"] (SpI K R_is_less)) : Cal P w K mg base 2 "put_in" ["found", "time", "pair"] (SpPut K) := by
  refine Cal.of D sc_put_in (fun vs H Q E h => by obtain ⟨_, _, _, _, _, _, _, rfl, _⟩ := h; rfl) (fun f cdv A outer s H vs Q E hr h => ?_)
  obtain ⟨B, a, cs, tv, pp, t, p, rfl, sm, hc, htv, hpv, ht, hbd, q⟩ := h
  refine ⟨_, (pss_cons (ps_set (i := 3) sc_put_in.nd rfl (.inl rfl) pe_int)
      (pss_cons (ps_while PassesOwn.never (PW.pt (pw_and (pt_cmpR op_lt (pv 3) (pe_callB call_len_seq (by rfl) T.z_len boot_len (pa_cons (pv 0) pa_nil)) (nomark _)) (pw_and1 (pt_val (pe_cal C_is_less (hr.mono (by omega)) (by rfl) (pa_cons (pe_ix (ix_tupK (K := K) rfl) (pe_ix (ix_listK (K := K) rfl) (pv 0) (pv 3) (fun _ _ => rfl)) pe_int (fun _ _ => rfl)) (pa_cons (pv 1) pa_nil))))))) (pss_one (ps_set (i := 3) sc_put_in.nd rfl (.inl rfl) (pe_op op_add (pv 3) pe_int))))
      (pss_cons (ps_if (PW.pt (pw_or (pt_cmpR (op_eqD hr.units) (pv 3) (pe_callB call_len_seq (by rfl) T.z_len boot_len (pa_cons (pv 0) pa_nil)) (nomark _)) (pw_or1 (pt_cmpR (op_neD hr.units) (pe_ix (ix_tupK (K := K) rfl) (pe_ix (ix_listK (K := K) rfl) (pv 0) (pv 3) (fun _ _ => rfl)) pe_int (fun _ _ => rfl)) (pv 1) (nomark _))))) (pss_one (ps_expr (pe_bm PySem.F.plainAttrs_list PySem.F.slot_list_insert PySem.F.type_list_insert mt_insert (pv 0) (pa_cons (pv 3) (pa_cons (pe_tup (pa_cons (pv 1) (pa_cons (pe_lst pa_nil) pa_nil))) pa_nil))))) pss_nil)
      (pss_one (ps_expr (pe_bm PySem.F.plainAttrs_list PySem.F.slot_list_append PySem.F.type_list_append mt_append (pe_ix (ix_tupK (K := K) rfl) (pe_ix (ix_listK (K := K) rfl) (pv 0) (pv 3) (fun _ _ => rfl)) pe_int (fun _ _ => rfl)) (pa_cons (pv 2) pa_nil))))))), ?_⟩
  have hdat := hc.dp sm
  have envAt : ∀ (H1 : Hp) (k : Nat), Same H H1 → Env K H H1 [some (.ref a), some tv, some pp, some (.int (k : Int))] [.im (chD cs), .im (nm t), .im (prD p), .im (.int (k : Int))] := fun H1 k e =>
    env_ims (vs := [.ref a, tv, pp, .int (k : Int)]) (ds := [chD cs, nm t, prD p, .int (k : Int)]) e (.cons (.base hdat) (.cons (.base (htv.dp sm)) (.cons (.base (hpv.dp sm)) (.cons (.base (.int _)) .nil))))
  have lenD : ((cs.map fun c => (.tuple [nm c.1, .list (c.2.map prD)] : PD))).length = cs.length := List.length_map _
  have itD : ∀ k (hk : k < cs.length), atI (cs.map fun c => (.tuple [nm c.1, .list (c.2.map prD)] : PD)) (k : Int) = some (.tuple [nm cs[k].1, .list (cs[k].2.map prD)]) := fun k hk => atI_nat (by rw [List.getElem?_map, List.getElem?_eq_getElem hk]; rfl)
  have tm : ∀ (k : Nat) (hk : k < cs.length), Ev K H (tOp (rIxT K) (tOp (rIxL K) (tVar 0) (tVar 3)) (tC (.int 0))) [.im (chD cs), .im (nm t), .im (prD p), .im (.int (k : Int))] (nm cs[k].1) := fun k hk =>
    ev_ixT (ds := [nm cs[k].1, .list (cs[k].2.map prD)]) (ev_ixL (ds := cs.map fun c => (.tuple [nm c.1, .list (c.2.map prD)] : PD)) (ev_var rfl) (ev_var rfl).p (itD k hk)) ev_int.p rfl
  have ln : ∀ (k : Nat), Ev K H (tCB (fun xs H Q => ∃ p ys, xs = [.ref p] ∧ (SqL K H p ys ∨ SqT K H p ys) ∧ Q (.int ys.length) H) (tCons (tVar 0) tNil)) [.im (chD cs), .im (nm t), .im (prD p), .im (.int (k : Int))] (.int (cs.length : Int)) := fun k => (ev_len (ds := cs.map fun c => (.tuple [nm c.1, .list (c.2.map prD)] : PD)) (ev_var rfl).p).is (by rw [lenD])
  refine ⟨fun m σ H1 => ∃ k : Nat, k ≤ cs.length ∧ m = cs.length - k ∧ (∀ c ∈ cs.take k, c.1 < t) ∧ σ = [some (.ref a), some tv, some pp, some (.int (k : Int))] ∧ Same H H1, ⟨_, 0, Nat.zero_le _, rfl, fun c hc => (nomatch hc), rfl, Same.refl H⟩, ?_⟩
  rintro m σ H1 ⟨k, hk, rfl, hall, rfl, e1⟩
  have fin : ∀ (H2 : Hp), Same H H2 → (∀ c r, cs.drop k = c :: r → ¬ c.1 < t) → tSeq (tIfS (tOr (tTest (tOp (rEqD K) (tVar 3) (tCB (fun xs H Q => ∃ p ys, xs = [.ref p] ∧ (SqL K H p ys ∨ SqT K H p ys) ∧ Q (.int ys.length) H) (tCons (tVar 0) tNil)))) (tTest (tOp (rNeD K) (tOp (rIxT K) (tOp (rIxL K) (tVar 0) (tVar 3)) (tC (.int 0))) (tVar 1))))
      (tDrop (tBM K "list" rInsert (tVar 0) (tCons (tVar 3) (tCons (tTup (tCons (tVar 1) (tCons (tLst tNil) tNil))) tNil)))) tNext)
      (tDrop (tBM K "list" rAppend (tOp (rIxT K) (tOp (rIxL K) (tVar 0) (tVar 3)) (tC (.int 1))) (tCons (tVar 2) tNil))) { nx := fun _ H' => Q .non H', rt := Q } [some (.ref a), some tv, some pp, some (.int (k : Int))] H2 := by
    intro H2 e2 hnot
    have hc2 := hc.ex e2
    have sm2 := sm.trans e2
    obtain ⟨h0, xs, ls, hxs, his, hnd, hbl⟩ := hc2
    obtain ⟨i1, i2⟩ := his.split k
    have hlen := his.len
    have hcs : cs = cs.take k ++ cs.drop k := (List.take_append_drop k cs).symm
    have hput := putIn_at t p (cs.take k) (cs.drop k) hall hnot
    rw [← hcs] at hput
    -- the list's append, from any heap with the pair at place k
    have app : ∀ (H3 : Hp) (x1 x2 : List V) (v : V) (l1 l2 : List Addr) (l : Addr) (c1 c2 : List Ch) (ps : List (Nat × Nat)), Same B H3 → (∀ b ys, SqT K H b ys → SqT K H3 b ys) → H3 a = some (.lst (x1 ++ v :: x2)) → x1.length = k → ChIs K B H3 x1 l1 c1 → ChIs K B H3 x2 l2 c2 → ChIt K B H3 v l (t, ps) → (a :: (l1 ++ l :: l2)).Nodup → (∀ m ∈ l1 ++ l :: l2, B m = none) → ps.length ≤ 20000 → LT.putIn t p cs = c1 ++ (t, ps ++ [p]) :: c2 →
        tDrop (tBM K "list" rAppend (tOp (rIxT K) (tOp (rIxL K) (tVar 0) (tVar 3)) (tC (.int 1))) (tCons (tVar 2) tNil)) { nx := fun _ H' => Q .non H', rt := Q } [some (.ref a), some tv, some pp, some (.int (k : Int))] H3 := by
      intro H3 x1 x2 v l1 l2 l c1 c2 ps sm3 ts3 ha3 hx1 j1 j2 jv nd3 hb3 hps hpt
      obtain ⟨T', tv', qs, rfl, g2, g3, g4, g5⟩ := id jv
      have hit : (x1 ++ V.ref T' :: x2)[k]? = some (.ref T') := by rw [List.getElem?_append_right (by omega), hx1, Nat.sub_self]; rfl
      refine ⟨.ref a, rfl, .int (k : Int), rfl, a, _, (k : Int), .ref T', rfl, rfl, .of ha3, atI_nat hit, T', _, 1, .ref l, rfl, rfl, .of g2, rfl, .inl ⟨rfl, qs, .of g4⟩, pp, rfl, l, qs, pp, rfl, rfl, g4, ?_, ?_⟩
      · have := g5.1
        rw [List.length_map] at this
        exact big_sz (by simp only at this; omega)
      · obtain ⟨r1, r2⟩ := put_end (p := p) (pp := pp) sm3 h0 ha3 j1 j2 jv nd3 hb3 (hpv.mono ts3) g4
        rw [← hpt] at r1
        exact q _ r1 r2 fun b ys z => upd_sqt g4 b ys (ts3 b ys z)
    have insb : ∀ (H3 : Hp), Same H2 H3 → LT.putIn t p cs = cs.take k ++ (t, [p]) :: cs.drop k → tDrop (tBM K "list" rInsert (tVar 0) (tCons (tVar 3) (tCons (tTup (tCons (tVar 1) (tCons (tLst tNil) tNil))) tNil)))
        { nx := tDrop (tBM K "list" rAppend (tOp (rIxT K) (tOp (rIxL K) (tVar 0) (tVar 3)) (tC (.int 1))) (tCons (tVar 2) tNil)) { nx := fun _ H' => Q .non H', rt := Q }, rt := Q } [some (.ref a), some tv, some pp, some (.int (k : Int))] H3 := by
      intro H3 e3 hpt
      have hx3 := e3 _ _ hxs
      refine ⟨.ref a, rfl, .inl ⟨rfl, xs, .of hx3⟩, .int (k : Int), rfl, tv, rfl, Nat.zero_le _, fun l hl => ⟨(by show 2 ≤ sizeLine; decide), fun T' hT' => ⟨a, xs, (k : Int), .ref T', rfl, rfl, ?_, by rw [hlen.1]; exact big_sz (by have := hbd.1; omega), by omega, by have := hbd.1; omega, ?_⟩⟩⟩
      · rw [upd_ne (ne_of_none ((same_new hl) _ _ hx3) hT'), upd_ne (ne_of_none hx3 hl)]; exact hx3
      · have sA := same_new (o := .lst []) hl
        have sB := same_new (o := .tup [tv, .ref l]) hT'
        have hal : (upd (upd H3 l (.lst [])) T' (.tup [tv, .ref l])) a = some (.lst xs) := sB _ _ (sA _ _ hx3)
        have tsC := upd_sqt (K := K) (o := .lst (xs.take k ++ [.ref T'] ++ xs.drop k)) hal
        have tupC : ∀ b ys, (upd (upd H3 l (.lst [])) T' (.tup [tv, .ref l])) b = some (.tup ys) → (upd (upd (upd H3 l (.lst [])) T' (.tup [tv, .ref l])) a (.lst (xs.take k ++ [.ref T'] ++ xs.drop k))) b = some (.tup ys) := fun b ys z => by
          rw [upd_ne (by rintro rfl; rw [hal] at z; cases z)]; exact z
        have nla : l ≠ a := fun z => by rw [z, hx3] at hl; cases hl
        have nTl : T' ≠ l := fun z => by rw [z, upd_same] at hT'; cases hT'
        have nTa : T' ≠ a := fun z => by rw [z, sA _ _ hx3] at hT'; cases hT'
        have lnew : ∀ m ∈ ls, m ≠ l := fun m hm z => by
          obtain ⟨ps, e⟩ := his.lsts m hm
          rw [z] at e
          rw [e3 _ _ e] at hl; cases hl
        have nd' := List.nodup_cons.mp hnd
        have keepL : ∀ m ∈ ls, (upd (upd (upd H3 l (.lst [])) T' (.tup [tv, .ref l])) a (.lst (xs.take k ++ [.ref T'] ++ xs.drop k))) m = H2 m := fun m hm => by
          obtain ⟨ps, e⟩ := his.lsts m hm
          rw [upd_ne (fun z => nd'.1 (by rw [← z]; exact hm)), e]
          exact sB _ _ (sA _ _ (e3 _ _ e))
        have ts2 : ∀ b ys, SqT K H2 b ys → SqT K (upd (upd (upd H3 l (.lst [])) T' (.tup [tv, .ref l])) a (.lst (xs.take k ++ [.ref T'] ++ xs.drop k))) b ys := fun b ys z => tsC b ys (sqt_ex sB (sqt_ex sA (sqt_ex e3 z)))
        have tt2 : ∀ b ys, H2 b = some (.tup ys) → (upd (upd (upd H3 l (.lst [])) T' (.tup [tv, .ref l])) a (.lst (xs.take k ++ [.ref T'] ++ xs.drop k))) b = some (.tup ys) := fun b ys z => tupC b ys (sB _ _ (sA _ _ (e3 _ _ z)))
        have hBl : B l = none := same_there (sm2.trans e3) l hl
        show tDrop (tBM K "list" rAppend (tOp (rIxT K) (tOp (rIxL K) (tVar 0) (tVar 3)) (tC (.int 1))) (tCons (tVar 2) tNil)) { nx := fun _ H' => Q .non H', rt := Q } [some (.ref a), some tv, some pp, some (.int (k : Int))] (upd (upd (upd H3 l (.lst [])) T' (.tup [tv, .ref l])) a (.lst (xs.take ((k : Int)).toNat ++ [.ref T'] ++ xs.drop ((k : Int)).toNat)))
        rw [Int.toNat_natCast]
        refine app _ (xs.take k) (xs.drop k) (.ref T') (ls.take k) (ls.drop k) l (cs.take k) (cs.drop k) [] ?_ (fun b ys z => ts2 b ys (sqt_ex e2 z)) ?_ ?_ ?_ ?_ ?_ ?_ ?_ (Nat.zero_le _) hpt
        · intro b o z
          rw [upd_ne (by rintro rfl; rw [h0] at z; cases z)]
          exact sB _ _ (sA _ _ (e3 _ _ (sm2 _ _ z)))
        · rw [upd_same, List.append_assoc]; rfl
        · rw [List.length_take, hlen.1]; omega
        · exact i1.mono ts2 tt2 fun m hm => keepL m (List.mem_of_mem_take hm)
        · exact i2.mono ts2 tt2 fun m hm => keepL m (List.mem_of_mem_drop hm)
        · refine ⟨T', tv, [], rfl, ?_, (htv.ex e2).mono ts2, ?_, .nil⟩
          · rw [upd_ne nTa]; exact upd_same
          · rw [upd_ne nla, upd_ne nTl.symm, upd_same]
        · refine List.nodup_cons.mpr ⟨fun z => ?_, ?_⟩
          · rcases List.mem_append.mp z with z | z
            · exact nd'.1 (List.mem_of_mem_take z)
            · rcases List.mem_cons.mp z with z | z
              · exact nla z.symm
              · exact nd'.1 (List.mem_of_mem_drop z)
          · have hp : (ls.take k ++ l :: ls.drop k).Perm (l :: ls) := by
              have := @List.perm_middle _ l (ls.take k) (ls.drop k)
              rwa [List.take_append_drop] at this
            exact hp.nodup_iff.mpr (List.nodup_cons.mpr ⟨fun z => lnew l z rfl, nd'.2⟩)
        · intro m hm
          rcases List.mem_append.mp hm with hm | hm
          · exact hbl m (List.mem_of_mem_take hm)
          · rcases List.mem_cons.mp hm with rfl | hm
            · exact hBl
            · exact hbl m (List.mem_of_mem_drop hm)
    have I2 := envAt H2 k e2
    cases hdr : cs.drop k with
    | nil =>
      have hkl : k = cs.length := by
        have := congrArg List.length hdr
        rw [List.length_drop, List.length_nil] at this
        omega
      rw [hdr] at hput
      refine (et_or (b := true) (et_test (ev_eq_int (ev_var rfl).p (ln k).p)) (fun z => absurd (show (k : Int) = (cs.length : Int) by omega) (of_decide_eq_false z))).is (b := true) (by rw [Bool.or_true]) _ H2 I2 _ fun H3 e3 => iteT (insb H3 e3 ?_)
      rw [hdr]; exact hput
    | cons c r =>
      have hkl : k < cs.length := by
        have := congrArg List.length hdr
        rw [List.length_drop, List.length_cons] at this
        omega
      have hck : cs[k] = c := by
        have := List.drop_eq_getElem_cons hkl
        rw [hdr] at this
        exact (List.cons.inj this).1.symm
      have hT : EvT K H (tOr (tTest (tOp (rEqD K) (tVar 3) (tCB (fun xs H Q => ∃ p ys, xs = [.ref p] ∧ (SqL K H p ys ∨ SqT K H p ys) ∧ Q (.int ys.length) H) (tCons (tVar 0) tNil)))) (tTest (tOp (rNeD K) (tOp (rIxT K) (tOp (rIxL K) (tVar 0) (tVar 3)) (tC (.int 0))) (tVar 1)))) [.im (chD cs), .im (nm t), .im (prD p), .im (.int (k : Int))] (!decide (c.1 = t)) :=
        (et_or (et_test (ev_eq_int (ev_var rfl).p (ln k).p)) (fun _ => et_test (ev_ne_nm (tm k hkl).p (ev_var rfl).p))).is (by rw [decide_eq_false (show ¬ (k : Int) = (cs.length : Int) by omega), hck]; rfl)
      refine hT _ H2 I2 _ fun H3 e3 => ?_
      rw [hdr] at hput
      simp only at hput
      by_cases ct : c.1 = t
      · rw [decide_eq_true ct]
        refine iteF ?_
        rw [if_pos ct] at hput
        -- the pair is there
        have e23 := e2.trans e3
        rw [hdr] at i2
        obtain ⟨v, x2, l, l2, hxd, hld, iv, i2'⟩ := i2.cons_inv
        have hxe : xs = xs.take k ++ v :: x2 := by rw [← hxd, List.take_append_drop]
        have hle : ls = ls.take k ++ l :: l2 := by rw [← hld, List.take_append_drop]
        have i13 := i1.mono (fun _ _ => sqt_ex e3) (fun T xs q => e3 _ _ q) (fun m hm => by
          obtain ⟨ps, z⟩ := his.lsts m (List.mem_of_mem_take hm)
          rw [z, e3 _ _ z])
        have i23 : ChIs K B H3 (v :: x2) (l :: l2) (c :: r) := ChIs.mono (xs := v :: x2) (ls := l :: l2) (cs := c :: r) (fun _ _ => sqt_ex e3) (fun T xs q => e3 _ _ q) (fun m hm => by
          obtain ⟨ps, z⟩ := ChIs.lsts (xs := v :: x2) (ls := l :: l2) (cs := c :: r) ⟨iv, i2'⟩ m hm
          rw [z, e3 _ _ z]) ⟨iv, i2'⟩
        refine app H3 (xs.take k) x2 v (ls.take k) l2 l (cs.take k) r c.2 (sm2.trans e3) (fun _ _ => sqt_ex e23) ?_ ?_ i13 i23.2 ?_ ?_ ?_ ?_ ?_
        · rw [← hxe]; exact e3 _ _ hxs
        · rw [List.length_take, hlen.1]; omega
        · have := i23.1
          rw [show c = (t, c.2) by rw [← ct]] at this
          exact this
        · rw [← hle]; exact hnd
        · rw [← hle]; exact hbl
        · exact (hbd.2 c (by rw [hcs, hdr]; simp)).1
        · rw [hput, ct]
      · rw [decide_eq_false ct]
        rw [if_neg ct] at hput
        exact iteT (insb H3 e3 (by rw [hdr]; exact hput))
  have I1 := envAt H1 k e1
  by_cases hkl : k < cs.length
  · have hT : EvT K H (tAnd (tTest (tOp (rI0 fun i j => .bl (decide (i < j))) (tVar 3) (tCB (fun xs H Q => ∃ p ys, xs = [.ref p] ∧ (SqL K H p ys ∨ SqT K H p ys) ∧ Q (.int ys.length) H) (tCons (tVar 0) tNil)))) (tB (tCall (SpI K R_is_less) [] E0 (tCons (tOp (rIxT K) (tOp (rIxL K) (tVar 0) (tVar 3)) (tC (.int 0))) (tCons (tVar 1) tNil))))) [.im (chD cs), .im (nm t), .im (prD p), .im (.int (k : Int))] (decide (cs[k].1 < t)) :=
      (et_and (et_test (ev_op (ev_var rfl).p (ln k).p op_ib)) (fun _ => et_B (ev_is_less (szb (hbd.2 _ (List.getElem_mem hkl)).2) (szb ht) (tm k hkl).p (ev_var rfl).p))).is (by rw [decide_eq_true (show (k : Int) < (cs.length : Int) by omega)]; rfl)
    refine hT _ H1 I1 _ fun H2 e2 => ?_
    by_cases ct : cs[k].1 < t
    · rw [decide_eq_true ct]
      refine iteT ⟨fun σ' H' => ∃ k' : Nat, k < k' ∧ k' ≤ cs.length ∧ (∀ c ∈ cs.take k', c.1 < t) ∧ σ' = [some (.ref a), some tv, some pp, some (.int (k' : Int))] ∧ Same H H', ?_, ?_⟩
      · rintro σ' H' ⟨k', h1, h2, h3, h4, h5⟩
        exact ⟨_, by omega, k', h2, rfl, h3, h4, h5⟩
      · refine (ev_op (ev_var rfl).p ev_int.p op_i0) _ H2 (I1.ex e2) _ fun v H3 e3 hv => ?_
        have hv' := hv.dp (e1.trans (e2.trans e3))
        cases hv'
        refine ⟨k + 1, by omega, hkl, fun c hc => ?_, ?_, e1.trans (e2.trans e3)⟩
        · rw [List.take_add_one, List.getElem?_eq_getElem hkl] at hc
          rcases List.mem_append.mp hc with hc | hc
          · exact hall c hc
          · have : c = cs[k] := by simpa using hc
            rw [this]; exact ct
        · rw [show (k : Int) + 1 = ((k + 1 : Nat) : Int) by omega]; rfl
    · rw [decide_eq_false ct]
      refine iteF (fin H2 (e1.trans e2) fun c r hdr => ?_)
      have := List.drop_eq_getElem_cons hkl
      rw [hdr] at this
      rw [(List.cons.inj this).1]; exact ct
  · have hT : EvT K H (tAnd (tTest (tOp (rI0 fun i j => .bl (decide (i < j))) (tVar 3) (tCB (fun xs H Q => ∃ p ys, xs = [.ref p] ∧ (SqL K H p ys ∨ SqT K H p ys) ∧ Q (.int ys.length) H) (tCons (tVar 0) tNil)))) (tB (tCall (SpI K R_is_less) [] E0 (tCons (tOp (rIxT K) (tOp (rIxL K) (tVar 0) (tVar 3)) (tC (.int 0))) (tCons (tVar 1) tNil))))) [.im (chD cs), .im (nm t), .im (prD p), .im (.int (k : Int))] false :=
      (et_and (b := false) (et_test (ev_op (ev_var rfl).p (ln k).p op_ib)) (fun z => absurd (of_decide_eq_true z) (by omega))).is (by rw [Bool.and_false])
    refine hT _ H1 I1 _ fun H2 e2 => iteF (fin H2 (e1.trans e2) fun c r hdr => ?_)
    have := congrArg List.length hdr
    rw [List.length_drop, List.length_cons] at this
    omega
end
end PF

-- P13
set_option linter.all false
set_option maxRecDepth 100000
set_option maxHeartbeats 2000000
namespace PF
open PySem PySem.Spec PyProof.Rows L2 LT
/-! ### loops that put into a list of changes at slot i -/
def NoOw (G : List Sl) : Prop := ∀ a, ¬ Own G a
/-- the state: data in the slots, the list of changes at a, in slot i -/
structure EnvC (K : PySem.W.Frag) (B : Hp) (a : Addr) (i : Nat) (H : Hp) (σ : L2.St) (G : List Sl) (cs : List Ch) : Prop where
  env : Env K B H σ G
  slot : G[i]? = some .no
  at_ : σ[i]? = some (some (.ref a))
  ch : ChAt K B H a cs
  no : NoOw G
def StC (K : PySem.W.Frag) (B : Hp) (a : Addr) (i : Nat) (t : TS) (G : List Sl) (cs : List Ch) (N : List Sl → List Ch → Prop) : Prop := ∀ σ H D, EnvC K B a i H σ G cs →
  (∀ σ' H' G' cs', N G' cs' → EnvC K B a i H' σ' G' cs' → D.nx σ' H') → t D σ H
section
variable {K : PySem.W.Frag} {B : Hp} {a : Addr} {i : Nat} {t u : TS} {tc : TT} {te : TE} {G : List Sl} {cs : List Ch} {N M : List Sl → List Ch → Prop} {d : PD}
theorem EnvC.ex {H H1 : Hp} {σ : L2.St} (e : Same H H1) (I : EnvC K B a i H σ G cs) : EnvC K B a i H1 σ G cs := ⟨I.env.ex e, I.slot, I.at_, I.ch.ex e, I.no⟩
theorem EnvC.set {H : Hp} {σ : L2.St} {j : Nat} {v : V} (hj : j ≠ i) (I : EnvC K B a i H σ G cs) (hv : Dq K B H v d) : EnvC K B a i H (σ.set j (some v)) (G.set j (.im d)) cs :=
  ⟨I.env.set_im j hv, by rw [List.getElem?_set_ne hj]; exact I.slot, by rw [List.getElem?_set_ne hj]; exact I.at_, I.ch, fun b hb => I.no b (own_set_im hb)⟩
theorem c_seq (h : StC K B a i t G cs (fun G' cs' => StC K B a i u G' cs' N)) : StC K B a i (tSeq t u) G cs N := fun σ H D I q =>
  h σ H { D with nx := u D } I fun σ' H' G' cs' n I' => n σ' H' D I' q
theorem c_run {σ : L2.St} {H : Hp} {D : Ends} (I : EnvC K B a i H σ G cs) (h : StC K B a i t G cs N) (k : ∀ σ' H' G' cs', N G' cs' → EnvC K B a i H' σ' G' cs' → u D σ' H') : tSeq t u D σ H := h σ H { D with nx := u D } I k
theorem new_run {σ : L2.St} {H : Hp} {D : Ends} (k : ∀ a, H a = none → u D (σ.set i (some (.ref a))) (upd H a (.lst []))) : tSeq (tAsg (tLst tNil) (gName i)) u D σ H := ⟨Nat.zero_le _, k⟩
theorem c_next (h : N G cs) : StC K B a i tNext G cs N := fun σ H D I q => q σ H G cs h I
theorem c_set {j : Nat} (hj : j ≠ i) (h : Ev K B te G d) (k : N (G.set j (.im d)) cs) : StC K B a i (tAsg te (gName j)) G cs N := fun σ H D I q =>
  h σ H I.env _ fun v H1 e1 hv => q _ H1 _ cs k ((I.ex e1).set hj hv)
theorem c_if {b : Bool} (h : EvT K B tc G b) (h1 : b = true → StC K B a i t G cs N) (h2 : b = false → StC K B a i u G cs N) : StC K B a i (tIfS tc t u) G cs N := fun σ H D I q =>
  h σ H I.env _ fun H1 e1 => by
    cases b with
    | true => exact h1 rfl σ H1 D (I.ex e1) q
    | false => exact h2 rfl σ H1 D (I.ex e1) q
theorem c_put {jt : Nat} {tm : Rat} {p : Nat × Nat} {E : XK} (ht : G[jt]? = some (.im (nm tm))) (hsz : Sz 402 tm) (hbd : Bd 20000 cs) (h : Ev K B te G (prD p)) (k : N G (LT.putIn tm p cs)) :
    StC K B a i (tDrop (tCall (SpPut K) [] E (tCons (tVar i) (tCons (tVar jt) (tCons te tNil))))) G cs N := fun σ H D I q => by
  obtain ⟨x, h1, v, h2, h3⟩ := I.env.slot ht
  subst h2
  refine ⟨_, I.at_, v, h1, h σ H I.env _ fun pv H1 e1 hp => ?_⟩
  unfold tNil
  dsimp only
  rw [List.append_nil]
  refine ⟨B, a, cs, v, pv, tm, p, rfl, I.env.sm.trans e1, I.ch.ex e1, h3.ex e1, hp, hsz, hbd, fun H' hc hs ts => q σ H' G _ k ⟨⟨hs, I.env.len, fun j x s hx hs' => ?_, I.env.nd⟩, I.slot, I.at_, hc, I.no⟩⟩
  have z := (I.env.ex e1).at_ j x s hx hs'
  cases s with
  | no => trivial
  | im d => obtain ⟨v, e, hv⟩ := z; exact ⟨v, e, hv.mono ts⟩
  | ow b ds => exact absurd ⟨j, ds, hs'⟩ (I.no b)
  | vl v => exact z
theorem c_for {ta : TA} {j n : Nat} (hj : j ≠ i) (h : EvAP K B ta G [.int (n : Int)]) (hn : (n : Int) < 2 ^ 62) (W : Nat → List Sl → List Ch → Prop) (h0 : W 0 G cs) (hs : ∀ (k : Nat) G' cs', k < n → W k G' cs' → StC K B a i t (G'.set j (.im (.int (k : Int)))) cs' (W (k + 1))) (hd : ∀ G' cs', W n G' cs' → N G' cs') :
    StC K B a i (tFor (iRng1 ta) (gName j) t) G cs N := fun σ H D I q => h σ H I.env _ fun vs H1 e1 h1 => by
  cases h1 with
  | cons h1 h2 =>
    cases h1; cases h2
    refine ⟨n, rfl, by omega, hn, ?_⟩
    refine for_range (lo := 0) (n := (n : Int).toNat) (fun k σ' H' => ∃ G' cs', W k G' cs' ∧ EnvC K B a i H' σ' G' cs') ⟨G, cs, h0, I.ex e1⟩ ?_ ?_
    · rintro k σ2 H2 hk ⟨G2, cs2, w, I2⟩
      have := hs k G2 cs2 (by omega) w
      rw [Int.zero_add]
      exact this _ H2 _ (I2.set hj (.base (.int _))) fun σ' H' G' cs' w' I' => ⟨G', cs', w', I'⟩
    · rintro σ2 H2 ⟨G2, cs2, w, I2⟩
      exact q σ2 H2 G2 cs2 (hd G2 cs2 (by simpa using w)) I2
theorem Env.put_im {H : Hp} {σ : L2.St} {v : V} (h : Env K B H σ G) (hi : σ[i]? = some (some v)) (hv : Dq K B H v d) : Env K B H σ (G.set i (.im d)) := by
  have := h.set_im i hv
  have e : σ.set i (some v) = σ := by
    apply List.ext_getElem?
    intro j
    rw [List.getElem?_set]
    split
    · rename_i c
      subst c
      split
      · exact hi.symm
      · rename_i c2; rw [List.getElem?_eq_none (by omega)] at hi; cases hi
    · rfl
  rw [e] at this
  exact this
end
/-- a promise: data in, data out (lists too) -/
def SpP (K : PySem.W.Frag) (R : List PD → PD → Prop) : Sp := fun vs H Q _ => ∃ ds d, DpAll K H vs ds ∧ R ds d ∧ ∀ v H', Same H H' → Dp K H' v d → Q v H'
theorem ep_call {K : PySem.W.Frag} {B : Hp} {G : List Sl} {d : PD} {ds : List PD} {R : List PD → PD → Prop} {ta : TA} {E : XK} (h : EvAP K B ta G ds) (hR : R ds d) : EvP K B (tCall (SpP K R) [] E ta) G d := fun σ H I Q q =>
  h σ H I _ fun vs H1 e1 h1 => by
    rw [List.append_nil]
    exact ⟨ds, d, h1, hR, fun v H2 e2 h2 => q v H2 (e1.trans e2) h2⟩
theorem chStep_bd {f : Nat → Ln} (hf : SzF f) {low high : Option Rat} {i j m : Nat} {cs : List Ch} (h : Bd m cs) : Bd (m + 1) (chStep f low high i cs j) := by
  unfold chStep LT.passing
  by_cases c : (f i).2 < (f j).2
  · rw [if_pos c]
    have hm : Sz 402 (meetT (f i) (f j)) := meet_sz (hf _) (hf _) (fun z => Rat.lt_irrefl (z ▸ c))
    have key : ∀ b : Bool, Bd (m + 1) (if b = true then LT.putIn (meetT (f i) (f j)) (i, j) cs else cs) := by
      intro b
      cases b with
      | true => exact bd_put hm h.1 h.2
      | false => exact bd_mono h (by omega)
    exact key _
  · rw [if_neg c]; exact bd_mono h (by omega)
theorem chRow_bd {f : Nat → Ln} (hf : SzF f) {low high : Option Rat} {i : Nat} {cs : List Ch} {m : Nat} (h : Bd m cs) : ∀ j, Bd (m + j) ((List.range j).foldl (chStep f low high i) cs)
  | 0 => h
  | j + 1 => by
    have ih := chRow_bd hf (low := low) (high := high) (i := i) h j
    rw [List.range_succ, List.foldl_append]
    exact chStep_bd hf ih
theorem chAll_bd {n : Nat} {f : Nat → Ln} (hf : SzF f) {low high : Option Rat} : ∀ k, Bd (k * n) ((List.range k).foldl (chRow n f low high) [])
  | 0 => ⟨Nat.zero_le _, fun c hc => (nomatch hc)⟩
  | k + 1 => by
    have ih := chAll_bd (n := n) hf (low := low) (high := high) k
    rw [List.range_succ, List.foldl_append]
    have := chRow_bd hf (low := low) (high := high) (i := k) ih n
    rw [Nat.succ_mul]
    exact this
section
variable {P : Program} {w : World} {K : PySem.W.Frag} {mg : Str → Option Value} {base : Heap} {B : Hp} {G : List Sl} {te ta tb tt td : TE}
/-! changes -/
def R_changes (ds : List PD) (d : PD) : Prop := ∃ (n : Nat) (f : Nat → Ln) (low high : Rat), SzF f ∧ Sz 600 low ∧ Sz 600 high ∧ n ≤ 100 ∧ ds = [linesD n f, nm low, nm high] ∧ d = chD (LT.changes n f low high)
abbrev s_changes : Stmt := topS 24
theorem sc_changes : FnScope ["lines", "low", "high", "found", "one", "other", "time"] ["lines", "low", "high"] (defScope s_changes) := ⟨rfl, rfl, rfl, by decide +kernel, rfl, by decide +kernel, by decide +kernel⟩
theorem chAt_new {H : Hp} {a : Addr} (ha : H a = none) : ChAt K H (upd H a (.lst [])) a [] := ⟨ha, [], [], upd_same, trivial, by simp, fun l hl => (nomatch hl)⟩
theorem noOw_start (ds : List PD) (n : Nat) : NoOw (start0 ds n) := fun a h => by
  obtain ⟨i, es, h⟩ := h
  unfold start0 at h
  by_cases c : i < ds.length
  · rw [List.getElem?_append_left (by simpa using c), List.getElem?_map] at h
    obtain ⟨d, e2, e3⟩ := Option.map_eq_some_iff.mp h
    cases e3
  · rw [List.getElem?_append_right (by simp; omega)] at h
    obtain ⟨_, e⟩ := List.getElem?_eq_some_iff.mp h
    simp at e
theorem envC_start {H : Hp} {σ : L2.St} {a : Addr} {i : Nat} {ds : List PD} {n : Nat} (I : Env K H H σ (start0 ds n)) (hi : (start0 ds n)[i]? = some .no) (ha : H a = none) : EnvC K H a i (upd H a (.lst [])) (σ.set i (some (.ref a))) ((start0 ds n).set i .no) [] := by
  have hl : i < σ.length := by rw [I.len]; exact (List.getElem?_eq_some_iff.mp hi).1
  have hl2 : i < (start0 ds n).length := (List.getElem?_eq_some_iff.mp hi).1
  exact ⟨(I.ex (same_new ha)).set_no i _, by rw [List.getElem?_set_self hl2], by rw [List.getElem?_set_self hl], chAt_new ha, fun b hb => noOw_start ds n b (own_set_no hb)⟩
theorem ok_changes (D : Df K mg "changes" s_changes ["lines", "low", "high"]) (T : Txt mg) (C_passing_time : Cal P w K mg base 5 "passing_time" ["one", "other"] (SpI K R_passing_time)) (C_is_less : Cal P w K mg base 1 "is_less" ["a", "b"] (SpI K R_is_less)) (C_put_in : Cal P w K mg base 2 "put_in" ["found", "time", "pair"] (SpPut K)) :
    Cal P w K mg base 6 "changes" ["lines", "low", "high"] (SpP K R_changes) := by
  refine Cal.of D sc_changes (fun vs H Q E h => ?_) (fun f cdv A outer s H vs Q E hr h => ?_)
  · obtain ⟨ds, d, h1, ⟨n, f, low, high, _, _, _, _, rfl, _⟩, _⟩ := h
    rw [(dpa_iff.mp h1).1]; rfl
  obtain ⟨ds, d, h1, ⟨n, f, low, high, hf, hlo, hhi, hn, rfl, rfl⟩, q⟩ := h
  have hl3 : vs.length = 3 := (dpa_iff.mp h1).1
  refine ⟨_, (pss_cons (ps_set (i := 3) sc_changes.nd rfl (.inl rfl) (pe_lst pa_nil))
      (pss_cons (ps_for PassesOwn.never rfl (pi_range1 (by rfl) T.z_range (pa_cons (pe_callB call_len_seq (by rfl) T.z_len boot_len (pa_cons (pv 0) pa_nil)) pa_nil)) (pg_name (i := 4) sc_changes.nd rfl (.inl rfl)) (pss_one (ps_for PassesOwn.never rfl (pi_range1 (by rfl) T.z_range (pa_cons (pe_callB call_len_seq (by rfl) T.z_len boot_len (pa_cons (pv 0) pa_nil)) pa_nil)) (pg_name (i := 5) sc_changes.nd rfl (.inl rfl)) (pss_cons (ps_set (i := 6) sc_changes.nd rfl (.inl rfl) (pe_cal C_passing_time (hr.mono (by omega)) (by rfl) (pa_cons (pe_ix (ix_listK (K := K) rfl) (pv 0) (pv 4) (fun _ _ => rfl)) (pa_cons (pe_ix (ix_listK (K := K) rfl) (pv 0) (pv 5) (fun _ _ => rfl)) pa_nil))))
      (pss_one (ps_if (PW.pt (pw_and (pt_cmpR op_notN (pv 6) pe_non (nomark _)) (pw_and (pt_val (pe_cal C_is_less (hr.mono (by omega)) (by rfl) (pa_cons (pv 1) (pa_cons (pv 6) pa_nil)))) (pw_and1 (pt_not (pt_val (pe_cal C_is_less (hr.mono (by omega)) (by rfl) (pa_cons (pv 2) (pa_cons (pv 6) pa_nil))))))))) (pss_one (ps_expr (pe_cal C_put_in (hr.mono (by omega)) (by rfl) (pa_cons (pv 3) (pa_cons (pv 6) (pa_cons (pe_tup (pa_cons (pv 4) (pa_cons (pv 5) pa_nil))) pa_nil)))))) pss_nil))))))
      (pss_one (ps_ret (pv 3))))), ?_⟩
  have I0 := env_start (N := ["lines", "low", "high", "found", "one", "other", "time"]) h1 (by rw [hl3]; decide)
  refine new_run fun a ha => c_run (envC_start (i := 3) I0 rfl ha) (N := fun G cs => cs = LT.changes n f low high) ?_ (fun σ' H' G' cs' hcs I' => by
      subst hcs
      exact ⟨_, I'.at_, q _ _ I'.env.sm (I'.ch.dp I'.env.sm)⟩)
  refine c_for (n := n) (by decide) (eap_cons (ev_lenL (ev_var rfl).p).p eap_nil) (by omega) (fun k G cs => (∃ s4 s5 s6, G = [.im (linesD n f), .im (nm low), .im (nm high), .no, s4, s5, s6]) ∧ cs = (List.range k).foldl (chRow n f (some low) (some high)) [] ∧ k ≤ n) ⟨⟨_, _, _, rfl⟩, rfl, Nat.zero_le _⟩ ?_ (fun G cs h => h.2.1)
  · rintro k G cs hk ⟨⟨s4, s5, s6, rfl⟩, rfl, hkn⟩
    have hb0 := chAll_bd (n := n) hf (low := some low) (high := some high) k
    have hkk : k * n + n ≤ 10100 := by
      have : k * n ≤ 100 * 100 := Nat.mul_le_mul (by omega) hn
      omega
    rw [List.range_succ, List.foldl_append]
    simp only [List.foldl_cons, List.foldl_nil]
    generalize (List.range k).foldl (chRow n f (some low) (some high)) [] = c0 at *
    refine c_for (n := n) (by decide) (eap_cons (ev_lenL (ev_var rfl).p).p eap_nil) (by omega) (fun j G cs => (∃ s5 s6, G = [.im (linesD n f), .im (nm low), .im (nm high), .no, .im (.int (k : Int)), s5, s6]) ∧ cs = (List.range j).foldl (chStep f (some low) (some high) k) c0 ∧ j ≤ n) ⟨⟨_, _, rfl⟩, rfl, Nat.zero_le _⟩ ?_ (fun G cs h => ⟨by obtain ⟨⟨s5, s6, rfl⟩, _⟩ := h; exact ⟨_, _, _, rfl⟩, h.2.1, hk⟩)
    rintro j G cs hj ⟨⟨s5, s6, rfl⟩, rfl, hjn⟩
    have hb1 := chRow_bd hf (low := some low) (high := some high) (i := k) hb0 j
    rw [List.range_succ, List.foldl_append]
    simp only [List.foldl_cons, List.foldl_nil]
    generalize (List.range j).foldl (chStep f (some low) (some high) k) c0 = c1 at *
    refine c_seq (c_set (by decide) (ev_passing_time (hf _) (hf _) (ev_line (i := k) (ev_var rfl) (ev_var rfl).p hk).p (ev_line (i := j) (ev_var rfl) (ev_var rfl).p hj).p) ?_)
    show StC K H a 3 _ [.im (linesD n f), .im (nm low), .im (nm high), .no, .im (.int (k : Int)), .im (.int (j : Int)), .im (optD (LT.passing f k j))] _ _
    have hst : chStep f (some low) (some high) k c1 j = (match LT.passing f k j with | none => c1 | some t => if decide (low < t) && !decide (high < t) then LT.putIn t (k, j) c1 else c1) := rfl
    by_cases c : (f k).2 < (f j).2
    · have hp : LT.passing f k j = some (meetT (f k) (f j)) := if_pos c
      have hm : Sz 402 (meetT (f k) (f j)) := meet_sz (hf _) (hf _) (fun z => Rat.lt_irrefl (z ▸ c))
      rw [hp] at hst ⊢
      simp only at hst
      refine c_if (b := decide (low < meetT (f k) (f j)) && !decide (high < meetT (f k) (f j))) ((et_and (et_test (ev_op (ev_var rfl).p ev_non.p op_isnot')) (fun _ => et_and (et_B (ev_is_less (szb hlo) (szb hm) (ev_var rfl).p (ev_var rfl).p)) (fun _ => et_not (et_B (ev_is_less (szb hhi) (szb hm) (ev_var rfl).p (ev_var rfl).p))))).is rfl)
        (fun hb => c_put (jt := 6) (p := (k, j)) rfl hm (bd_mono hb1 (by omega)) (ev_tup (ea_cons (ev_var rfl) (ea_cons (ev_var rfl) ea_nil))) ?_) (fun hb => c_next ?_)
      · rw [hst, if_pos hb]; exact ⟨⟨_, _, rfl⟩, rfl, hj⟩
      · rw [hst, if_neg (by rw [hb]; exact Bool.false_ne_true)]; exact ⟨⟨_, _, rfl⟩, rfl, hj⟩
    · have hp : LT.passing f k j = none := if_neg c
      rw [hp] at hst ⊢
      simp only at hst
      refine c_if (b := false) ((et_and (b := false) (et_test (ev_op (ev_var rfl).p ev_non.p op_isnot')) (fun z => absurd z (by decide))).is rfl) (fun z => nomatch z) (fun _ => c_next ?_)
      rw [hst]; exact ⟨⟨_, _, rfl⟩, rfl, hj⟩
theorem ep_changes {n : Nat} {f : Nat → Ln} {low high : Rat} (hf : SzF f) (hlo : Sz 600 low) (hhi : Sz 600 high) (hn : n ≤ 100) (h1 : EvP K B ta G (linesD n f)) (h2 : EvP K B tb G (nm low)) (h3 : EvP K B tt G (nm high)) :
    EvP K B (tCall (SpP K R_changes) [] E0 (tCons ta (tCons tb (tCons tt tNil)))) G (chD (LT.changes n f low high)) := ep_call (eap_cons h1 (eap_cons h2 (eap_cons h3 eap_nil))) ⟨n, f, low, high, hf, hlo, hhi, hn, rfl, rfl⟩
/-! change_times -/
def R_change_times (ds : List PD) (es : List PD) : Prop := ∃ (n : Nat) (f : Nat → Ln), SzF f ∧ n ≤ 100 ∧ ds = [linesD n f] ∧ es = (changeTimes n f).map nm
abbrev s_change_times : Stmt := topS 43
theorem sc_change_times : FnScope ["lines", "found", "one", "other", "time", "pairs"] ["lines"] (defScope s_change_times) := ⟨rfl, rfl, rfl, by decide +kernel, rfl, by decide +kernel, by decide +kernel⟩
theorem ok_change_times (D : Df K mg "change_times" s_change_times ["lines"]) (T : Txt mg) (C_passing_time : Cal P w K mg base 5 "passing_time" ["one", "other"] (SpI K R_passing_time)) (C_put_in : Cal P w K mg base 2 "put_in" ["found", "time", "pair"] (SpPut K)) :
    Cal P w K mg base 6 "change_times" ["lines"] (SpO K R_change_times) := by
  refine Cal.of D sc_change_times (fun vs H Q E h => ?_) (fun f cdv A outer s H vs Q E hr h => ?_)
  · obtain ⟨ds, d, h1, ⟨n, f, _, _, rfl, _⟩, _⟩ := h
    rw [(dpa_iff.mp h1).1]; rfl
  obtain ⟨ds, d, h1, ⟨n, f, hf, hn, rfl, rfl⟩, q⟩ := h
  have hl3 : vs.length = 1 := (dpa_iff.mp h1).1
  refine ⟨_, (pss_cons (ps_set (i := 1) sc_change_times.nd rfl (.inl rfl) (pe_lst pa_nil))
      (pss_cons (ps_for PassesOwn.never rfl (pi_range1 (by rfl) T.z_range (pa_cons (pe_callB call_len_seq (by rfl) T.z_len boot_len (pa_cons (pv 0) pa_nil)) pa_nil)) (pg_name (i := 2) sc_change_times.nd rfl (.inl rfl)) (pss_one (ps_for PassesOwn.never rfl (pi_range1 (by rfl) T.z_range (pa_cons (pe_callB call_len_seq (by rfl) T.z_len boot_len (pa_cons (pv 0) pa_nil)) pa_nil)) (pg_name (i := 3) sc_change_times.nd rfl (.inl rfl)) (pss_cons (ps_set (i := 4) sc_change_times.nd rfl (.inl rfl) (pe_cal C_passing_time (hr.mono (by omega)) (by rfl) (pa_cons (pe_ix (ix_listK (K := K) rfl) (pv 0) (pv 2) (fun _ _ => rfl)) (pa_cons (pe_ix (ix_listK (K := K) rfl) (pv 0) (pv 3) (fun _ _ => rfl)) pa_nil))))
      (pss_one (ps_if (pt_cmpR op_notN (pv 4) pe_non (nomark _)) (pss_one (ps_expr (pe_cal C_put_in (hr.mono (by omega)) (by rfl) (pa_cons (pv 1) (pa_cons (pv 4) (pa_cons (pe_tup (pa_cons (pv 2) (pa_cons (pv 3) pa_nil))) pa_nil)))))) pss_nil))))))
      (pss_one (ps_ret (pe_lc (own := [("time", 4), ("pairs", 5)]) (tt := tYes) rfl sc_change_times.nd (pi_list (pv 1)) (blkOk_by (own := [("time", 4), ("pairs", 5)]) (N := ["lines", "found", "one", "other", "time", "pairs"]) (sc := defScope (topS 43)) (by decide +kernel)) (fun _ _ _ _ _ => (pg_tupK (K := K) 2 rfl rfl (pgs_cons (pg_name (i := 4) sc_change_times.nd rfl (.inl rfl) (.inr rfl)) (pgs_cons (pg_name (i := 5) sc_change_times.nd rfl (.inl rfl) (.inr rfl)) pgs_nil)))) (fun _ _ _ _ _ => pts_nil) (fun _ _ _ _ _ => (pv 4))))))), ?_⟩
  have I0 := env_start (N := ["lines", "found", "one", "other", "time", "pairs"]) h1 (by rw [hl3]; decide)
  refine new_run fun a ha => c_run (envC_start (i := 1) I0 rfl ha) (N := fun G cs => (∃ s2 s3 s4 s5, G = [.im (linesD n f), .no, s2, s3, s4, s5]) ∧ cs = chAll n f none none) ?_ (fun σ' H' G' cs' hcs I' => ?_)
  · refine c_for (n := n) (by decide) (eap_cons (ev_lenL (ev_var rfl).p).p eap_nil) (by omega) (fun k G cs => (∃ s2 s3 s4 s5, G = [.im (linesD n f), .no, s2, s3, s4, s5]) ∧ cs = (List.range k).foldl (chRow n f none none) [] ∧ k ≤ n) ⟨⟨_, _, _, _, rfl⟩, rfl, Nat.zero_le _⟩ ?_ (fun G cs h => ⟨h.1, h.2.1⟩)
    rintro k G cs hk ⟨⟨s2, s3, s4, s5, rfl⟩, rfl, hkn⟩
    have hb0 := chAll_bd (n := n) hf (low := none) (high := none) k
    have hkk : k * n + n ≤ 10100 := by
      have : k * n ≤ 100 * 100 := Nat.mul_le_mul (by omega) hn
      omega
    rw [List.range_succ, List.foldl_append]
    simp only [List.foldl_cons, List.foldl_nil]
    generalize (List.range k).foldl (chRow n f none none) [] = c0 at *
    refine c_for (n := n) (by decide) (eap_cons (ev_lenL (ev_var rfl).p).p eap_nil) (by omega) (fun j G cs => (∃ s3 s4 s5, G = [.im (linesD n f), .no, .im (.int (k : Int)), s3, s4, s5]) ∧ cs = (List.range j).foldl (chStep f none none k) c0 ∧ j ≤ n) ⟨⟨_, _, _, rfl⟩, rfl, Nat.zero_le _⟩ ?_ (fun G cs h => ⟨by obtain ⟨⟨s3, s4, s5, rfl⟩, _⟩ := h; exact ⟨_, _, _, _, rfl⟩, h.2.1, hk⟩)
    rintro j G cs hj ⟨⟨s3, s4, s5, rfl⟩, rfl, hjn⟩
    have hb1 := chRow_bd hf (low := none) (high := none) (i := k) hb0 j
    rw [List.range_succ, List.foldl_append]
    simp only [List.foldl_cons, List.foldl_nil]
    generalize (List.range j).foldl (chStep f none none k) c0 = c1 at *
    refine c_seq (c_set (by decide) (ev_passing_time (hf _) (hf _) (ev_line (i := k) (ev_var rfl) (ev_var rfl).p hk).p (ev_line (i := j) (ev_var rfl) (ev_var rfl).p hj).p) ?_)
    show StC K H a 1 _ [.im (linesD n f), .no, .im (.int (k : Int)), .im (.int (j : Int)), .im (optD (LT.passing f k j)), s5] _ _
    have hst : chStep f none none k c1 j = (match LT.passing f k j with | none => c1 | some t => LT.putIn t (k, j) c1) := by
      unfold chStep
      cases LT.passing f k j <;> rfl
    by_cases c : (f k).2 < (f j).2
    · have hp : LT.passing f k j = some (meetT (f k) (f j)) := if_pos c
      have hm : Sz 402 (meetT (f k) (f j)) := meet_sz (hf _) (hf _) (fun z => Rat.lt_irrefl (z ▸ c))
      rw [hp] at hst ⊢
      simp only at hst
      refine c_if (b := true) (et_test ((ev_op (ev_var rfl).p ev_non.p op_isnot').is rfl)) (fun _ => c_put (jt := 4) (p := (k, j)) rfl hm (bd_mono hb1 (by omega)) (ev_tup (ea_cons (ev_var rfl) (ea_cons (ev_var rfl) ea_nil))) ?_) (fun z => nomatch z)
      rw [hst]; exact ⟨⟨_, _, _, rfl⟩, rfl, hj⟩
    · have hp : LT.passing f k j = none := if_neg c
      rw [hp] at hst ⊢
      simp only at hst
      refine c_if (b := false) (et_test ((ev_op (ev_var rfl).p ev_non.p op_isnot').is rfl)) (fun z => nomatch z) (fun _ => c_next ?_)
      rw [hst]; exact ⟨⟨_, _, _, rfl⟩, rfl, hj⟩
  · obtain ⟨⟨s2, s3, s4, s5, rfl⟩, rfl⟩ := hcs
    have hbd := chAll_bd (n := n) hf (low := none) (high := none) n
    have hnn : n * n ≤ 100 * 100 := Nat.mul_le_mul hn hn
    have sm := I'.env.sm
    have I2 := (I'.env.frz).put_im (i := 1) I'.at_ (.base (I'.ch.dp sm))
    have St1 : St K H' (tRet (tLc (iList K (tVar 1)) (gTup K 2 (gCons (gName 4) (gCons (gName 5) gNil))) tYes (tVar 4) [4, 5])) ((frz [.im (linesD n f), .no, s2, s3, s4, s5]).set 1 (.im (chD (chAll n f none none)))) (fun _ => False) (fun r => r = .ow ((changeTimes n f).map nm)) := by
      refine s_retO (eo_lc (ds := (chAll n f none none).map fun c => .tuple [nm c.1, .list (c.2.map prD)]) (ev_var rfl).p (by rw [List.length_map]; exact big_sz (by have := hbd.1; unfold chAll; omega)) (by unfold changeTimes; simp) (fun B' k d e g1 g2 => ?_)) (nms_noL _) rfl
      unfold changeTimes at g2
      rw [List.map_map, List.getElem?_map] at g2
      rw [List.getElem?_map] at g1
      obtain ⟨c, hc, rfl⟩ := Option.map_eq_some_iff.mp g1
      rw [hc] at g2
      cases g2
      exact ⟨_, tg_pair (by decide) (by decide), ev_var rfl⟩
    exact St1 σ' H' _ I2 (fun _ _ _ z => z.elim) ⟨fun _ _ _ e => (by cases e), fun ds' a' xs H'' e s hn' ha' g => by cases e; exact q a' H'' xs (same_there sm a' hn') (sm.trans s) ha' (g.dp s)⟩
theorem eo_change_times {n : Nat} {f : Nat → Ln} (hf : SzF f) (hn : n ≤ 100) (h1 : EvP K B ta G (linesD n f)) : EvO K B (tCall (SpO K R_change_times) [] E0 (tCons ta tNil)) G ((changeTimes n f).map nm) := eo_call (eap_cons h1 eap_nil) ⟨n, f, hf, hn, rfl, rfl⟩
theorem changeTimes_sz {n : Nat} {f : Nat → Ln} (hf : SzF f) : ∀ t ∈ changeTimes n f, Sz 402 t := fun t ht => by
  unfold changeTimes at ht
  obtain ⟨c, hc, rfl⟩ := List.mem_map.mp ht
  exact ((chAll_bd (n := n) hf (low := none) (high := none) n).2 c hc).2
theorem changeTimes_len {n : Nat} {f : Nat → Ln} (hf : SzF f) (hn : n ≤ 100) : (changeTimes n f).length ≤ 10000 := by
  have := (chAll_bd (n := n) hf (low := none) (high := none) n).1
  have hnn : n * n ≤ 100 * 100 := Nat.mul_le_mul hn hn
  unfold changeTimes chAll
  rw [List.length_map]
  omega
/-! rank_row -/
/-- a number of the module's own -/
def GlN (K : PySem.W.Frag) (mg : Str → Option Value) (x : Str) (q : Rat) : Prop := ∃ a, mg x = some (.ref a) ∧ ∀ H, Dp K H (.ref a) (nm q)
def R_rank_row (ds : List PD) (es : List PD) : Prop := ∃ (n : Nat) (f : Nat → Ln) (k : Nat), SzF f ∧ n ≤ 100 ∧ ds = [linesD n f, .int (k : Int)] ∧ es = (rankRow n f k).map rowD
abbrev s_rank_row : Stmt := topS 44
theorem sc_rank_row : FnScope ["lines", "k", "times", "before", "row", "time", "runner"] ["lines", "k"] (defScope s_rank_row) := ⟨rfl, rfl, rfl, by decide +kernel, rfl, by decide +kernel, by decide +kernel⟩
theorem sz_one : Sz 2 1 := ⟨by decide, by decide⟩
theorem last_row (row : List (Nat × Option Rat)) (h : row ≠ []) : atI (row.map rowD) (-1) = some (rowD (row.getLastD (0, none))) := by
  obtain ⟨pre, x, rfl⟩ : ∃ pre x, row = pre ++ [x] := ⟨row.dropLast, row.getLast h, (List.dropLast_concat_getLast h).symm⟩
  rw [List.map_append]
  have : (pre ++ [x]).getLastD (0, none) = x := by simp
  rw [this]
  exact atI_last _ _
theorem ok_rank_row (D : Df K mg "rank_row" s_rank_row ["lines", "k"]) (T : Txt mg) (gO : GlN K mg "ONE" 1) (gN : GlN K mg "NOUGHT" 0) (C_change_times : Cal P w K mg base 6 "change_times" ["lines"] (SpO K R_change_times)) (C_difference_of : Cal P w K mg base 3 "difference_of" ["a", "b"] (SpI K R_difference_of)) (C_order_at : Cal P w K mg base 6 "order_at" ["lines", "time"] (SpO K R_order_at)) :
    Cal P w K mg base 7 "rank_row" ["lines", "k"] (SpO K R_rank_row) := by
  obtain ⟨a_ONE, g_ONE, dO⟩ := gO
  obtain ⟨a_NOUGHT, g_NOUGHT, dN⟩ := gN
  refine Cal.ofO D sc_rank_row (by decide) (fun ds d h => by obtain ⟨n, f, k, _, _, rfl, _⟩ := h; rfl) (fun f cdv A outer s H E hr ds d h => ?_)
  obtain ⟨n, f, k, hf, hn, rfl, rfl⟩ := h
  refine ⟨_, (pss_cons (ps_if (pt_cmpR op_ge (pv 1) (pe_callB call_len_seq (by rfl) T.z_len boot_len (pa_cons (pv 0) pa_nil)) (nomark _)) (pss_one (ps_ret (pe_lst pa_nil))) pss_nil)
      (pss_cons (ps_set (i := 2) sc_rank_row.nd rfl (.inl rfl) (pe_cal C_change_times (hr.mono (by omega)) (by rfl) (pa_cons (pv 0) pa_nil)))
      (pss_cons (ps_set (i := 3) sc_rank_row.nd rfl (.inl rfl) (pe_glob (v := .ref a_NOUGHT) (by rfl) g_NOUGHT rfl))
      (pss_cons (ps_if (pt_cmpR (op_neD hr.units) (pv 2) (pe_lst pa_nil) (nomark _)) (pss_one (ps_set (i := 3) sc_rank_row.nd rfl (.inl rfl) (pe_cal C_difference_of (hr.mono (by omega)) (by rfl) (pa_cons (pe_ix (ix_listK (K := K) rfl) (pv 2) pe_int (fun _ _ => rfl)) (pa_cons (pe_glob (v := .ref a_ONE) (by rfl) g_ONE rfl) pa_nil))))) pss_nil)
      (pss_cons (ps_set (i := 4) sc_rank_row.nd rfl (.inl rfl) (pe_lst (pa_cons (pe_tup (pa_cons (pe_ix (ix_listK (K := K) rfl) (pe_cal C_order_at (hr.mono (by omega)) (by rfl) (pa_cons (pv 0) (pa_cons (pv 3) pa_nil))) (pv 1) (fun _ _ => rfl)) (pa_cons pe_non pa_nil))) pa_nil)))
      (pss_cons (ps_for PassesOwn.never rfl (pi_list (pv 2)) (pg_name (i := 5) sc_rank_row.nd rfl (.inl rfl)) (pss_cons (ps_set (i := 6) sc_rank_row.nd rfl (.inl rfl) (pe_ix (ix_listK (K := K) rfl) (pe_cal C_order_at (hr.mono (by omega)) (by rfl) (pa_cons (pv 0) (pa_cons (pv 5) pa_nil))) (pv 1) (fun _ _ => rfl)))
      (pss_one (ps_if (pt_cmpR (op_neD hr.units) (pv 6) (pe_ix (ix_tupK (K := K) rfl) (pe_ix (ix_listK (K := K) rfl) (pv 4) (pe_un un_neg pe_int) (fun _ _ => rfl)) pe_int (fun _ _ => rfl)) (nomark _)) (pss_one (ps_expr (pe_bm PySem.F.plainAttrs_list PySem.F.slot_list_append PySem.F.type_list_append mt_append (pv 4) (pa_cons (pe_tup (pa_cons (pv 6) (pa_cons (pv 5) pa_nil))) pa_nil)))) pss_nil))))
      (pss_one (ps_ret (pv 4))))))))), ?_⟩
  refine s_seq (s_if (et_test (ev_op (ev_var rfl).p (ev_lenL (ev_var rfl).p).p op_ib)) (fun hb => s_retO (eo_lst eap_nil) rfl ?_) (fun hb => s_next ?_))
  · have : (n : Int) ≤ (k : Int) := of_decide_eq_true hb
    unfold rankRow; rw [if_pos (by omega)]; rfl
  have hk : k < n := by
    have : ¬ (n : Int) ≤ (k : Int) := of_decide_eq_false hb
    omega
  have hct := changeTimes_sz (n := n) hf
  have hcl := changeTimes_len (n := n) hf hn
  have hrr : rankRow n f k = (changeTimes n f).foldl (rankStep n f k) [((order n f (before (changeTimes n f))).getD k 0, none)] := if_neg (by omega)
  rw [hrr]
  refine s_seq (s_setO (eo_change_times hf hn (ev_var rfl).p) (nms_noL _) (fun a _ => ?_))
  generalize changeTimes n f = ts at *
  have ordk : ∀ t, Sz 600 t → ∀ {t1 t2 : TE} {G : List Sl} {B' : Hp} {i : Nat}, EvP K B' t1 G (linesD n f) → EvP K B' t2 G (nm t) → EvP K B' (tVar i) G (.int (k : Int)) → Ev K B' (tOp (rIxL K) (tCall (SpO K R_order_at) [] E0 (tCons t1 (tCons t2 tNil))) (tVar i)) G (.int ((order n f t).getD k 0 : Nat)) := fun t ht _ _ _ _ _ h1 h2 h3 =>
    (ep_ixO (eo_order_at hf ht hn h1 h2) h3 (atI_nat (natsD_at (by rw [order_len]; exact hk)))).q rfl
  have hbef : Sz 600 (before ts) := by
    cases ts with
    | nil => exact sz_zero
    | cons t ts => exact sz_mono (sz_sub (hct t List.mem_cons_self) sz_one) (by decide)
  have rest : St K H (tSeq (tAsg (tLst (tCons (tTup (tCons (tOp (rIxL K) (tCall (SpO K R_order_at) [] E0 (tCons (tVar 0) (tCons (tVar 3) tNil))) (tVar 1)) (tCons (tC .non) tNil))) tNil)) (gName 4)) (tSeq (tFor (iList K (tVar 2)) (gName 5) (tSeq (tAsg (tOp (rIxL K) (tCall (SpO K R_order_at) [] E0 (tCons (tVar 0) (tCons (tVar 5) tNil))) (tVar 1)) (gName 6))
      (tIfS (tTest (tOp (rNeD K) (tVar 6) (tOp (rIxT K) (tOp (rIxL K) (tVar 4) (tUn (rU fun i => .int (-i)) (tC (.int 1)))) (tC (.int 0))))) (tDrop (tBM K "list" rAppend (tVar 4) (tCons (tTup (tCons (tVar 6) (tCons (tVar 5) tNil))) tNil))) tNext))) (tRet (tVar 4)))) [.im (linesD n f), .im (.int (k : Int)), .ow a (ts.map nm), .im (nm (before ts)), .no, .no, .no] (fun _ => False) (fun r => r = .ow ((ts.foldl (rankStep n f k) [((order n f (before ts)).getD k 0, none)]).map rowD)) := by
    refine s_seq (s_setO (eo_lst (eap_cons (ev_tup (ea_cons (ordk _ hbef (ev_var rfl).p (ev_var rfl).p (ev_var rfl).p) (ea_cons ev_non ea_nil))).p eap_nil)) rfl (fun b hb2 => ?_))
    have hlen : ∀ i, ((ts.take i).foldl (rankStep n f k) [((order n f (before ts)).getD k 0, none)]).length ≤ i + 1 ∧ (ts.take i).foldl (rankStep n f k) [((order n f (before ts)).getD k 0, none)] ≠ [] := by
      intro i
      induction i with
      | zero => exact ⟨Nat.le_refl _, by simp⟩
      | succ i ih =>
        rw [List.take_add_one, List.foldl_append]
        cases ts[i]? with
        | none => exact ⟨Nat.le_succ_of_le ih.1, ih.2⟩
        | some t =>
          show (rankStep n f k _ t).length ≤ _ ∧ rankStep n f k _ t ≠ []
          generalize (ts.take i).foldl (rankStep n f k) [((order n f (before ts)).getD k 0, none)] = row at *
          unfold rankStep
          split
          · exact ⟨Nat.le_succ_of_le ih.1, ih.2⟩
          · refine ⟨?_, by simp⟩
            rw [List.length_append, List.length_singleton]
            have := ih.1
            omega
    refine s_seqM (M := fun G => ∃ s5 s6, G = [.im (linesD n f), .im (.int (k : Int)), .ow a (ts.map nm), .im (nm (before ts)), .ow b ((ts.foldl (rankStep n f k) [((order n f (before ts)).getD k 0, none)]).map rowD), s5, s6])
      (s_forV (j := 2) (a := a) (ds := ts.map nm) (fun i G => i ≤ ts.length ∧ ∃ s5 s6, G = [.im (linesD n f), .im (.int (k : Int)), .ow a (ts.map nm), .im (nm (before ts)), .ow b (((ts.take i).foldl (rankStep n f k) [((order n f (before ts)).getD k 0, none)]).map rowD), s5, s6]) ⟨Nat.zero_le _, _, _, rfl⟩ (fun i G h => by obtain ⟨_, _, _, rfl⟩ := h; rfl) ?_ (fun G h => ?_)) ?_
    · rintro i d G hd ⟨hle, s5, s6, rfl⟩
      have hi : i < ts.length := by
        have := (List.getElem?_eq_some_iff.mp hd).1
        simpa using this
      have e : d = nm ts[i] := by
        rw [List.getElem?_map, List.getElem?_eq_getElem hi] at hd
        exact (Option.some.inj hd).symm
      subst e
      have hti : Sz 600 ts[i] := sz_mono (hct _ (List.getElem_mem hi)) (by decide)
      obtain ⟨hl, hne⟩ := hlen i
      have hstep : (ts.take (i + 1)).foldl (rankStep n f k) [((order n f (before ts)).getD k 0, none)] = rankStep n f k ((ts.take i).foldl (rankStep n f k) [((order n f (before ts)).getD k 0, none)]) ts[i] := by
        rw [List.take_add_one, List.getElem?_eq_getElem hi, List.foldl_append]; rfl
      rw [hstep]
      generalize (ts.take i).foldl (rankStep n f k) [((order n f (before ts)).getD k 0, none)] = row at *
      refine ⟨[5], _, tg_name (by simp), ?_⟩
      refine s_seq (s_set (ordk _ hti (ev_var rfl).p (ev_var rfl).p (ev_var rfl).p) ?_)
      refine s_if (et_test (ev_ne_int (ev_var rfl).p (ev_ixT (ds := [.int ((row.getLastD (0, none)).1 : Int), optD (row.getLastD (0, none)).2]) (ev_ixV (i := -1) rfl (ev_un_neg ev_int) (last_row row hne)) ev_int.p rfl).p)) (fun hb => s_app (ds := row.map rowD) rfl (ev_tup (ea_cons (ev_var rfl) (ea_cons (ev_var rfl) ea_nil))) (by rw [List.length_map]; exact big_sz (by omega)) ?_) (fun hb => s_next ?_)
      · have hne2 : ¬ (order n f ts[i]).getD k 0 = (row.getLastD (0, none)).1 := fun z => by rw [z] at hb; simp at hb
        have : rankStep n f k row ts[i] = row ++ [((order n f ts[i]).getD k 0, some ts[i])] := if_neg hne2
        rw [this, List.map_append]
        exact ⟨hi, _, _, rfl⟩
      · have heq : (order n f ts[i]).getD k 0 = (row.getLastD (0, none)).1 := by
          have : ((order n f ts[i]).getD k 0 : Int) = ((row.getLastD (0, none)).1 : Int) := by simpa using hb
          omega
        have : rankStep n f k row ts[i] = row := if_pos heq
        rw [this]
        exact ⟨hi, _, _, rfl⟩
    · obtain ⟨_, s5, s6, rfl⟩ := h
      rw [List.length_map, List.take_length]
      exact ⟨_, _, rfl⟩
    · rintro G ⟨s5, s6, rfl⟩
      exact s_retV rfl rfl
  have ev_gl : ∀ {x : Addr} {q : Rat} {G : List Sl}, (∀ H, Dp K H (.ref x) (nm q)) → Ev K H (tC (.ref x)) G (nm q) := fun h σ H1 I Q q => q _ H1 (Same.refl _) (.base (h H))
  refine s_seq (s_set (ev_gl dN) ?_)
  cases ts with
  | nil =>
    refine s_seq (s_if (b := false) (et_test ((ev_ne_nil (shp_nms []) (by decide) (ep_var rfl) (eo_lst eap_nil).p).is (by simp))) (fun z => nomatch z) (fun _ => s_next ?_))
    exact rest
  | cons t ts =>
    refine s_seq (s_if (b := true) (et_test ((ev_ne_nil (shp_nms (t :: ts)) (by decide) (ep_var rfl) (eo_lst eap_nil).p).is (by simp))) (fun _ => s_set (ev_difference_of (szb (hct t List.mem_cons_self)) (szb sz_one) (ev_ixV (d := nm t) rfl ev_int.p (atI_nat (j := 0) rfl)).p (ev_gl dO).p) ?_) (fun z => nomatch z))
    exact rest
theorem eo_rank_row {n : Nat} {f : Nat → Ln} {k : Nat} (hf : SzF f) (hn : n ≤ 100) (h1 : EvP K B ta G (linesD n f)) (h2 : EvP K B tb G (.int (k : Int))) : EvO K B (tCall (SpO K R_rank_row) [] E0 (tCons ta (tCons tb tNil))) G ((rankRow n f k).map rowD) := eo_call (eap_cons h1 (eap_cons h2 eap_nil)) ⟨n, f, k, hf, hn, rfl, rfl⟩
end
end PF

-- P14
set_option linter.all false
set_option maxRecDepth 100000
set_option maxHeartbeats 2000000
namespace PF
open PySem PySem.Spec PyProof.Rows L2 LT
/-! ### waiting lists: shapes -/
def keyD (k : Nat × Nat) : PD := .tuple [.int (k.1 : Int), .int (k.2 : Int)]
def prW (e : Pr) : PD := .tuple [nm e.1, keyD e.2]
def shD : Sh → PD
  | .nil => .none
  | .node p l r => .tuple [prW p, shD l, shD r]
theorem shD_noL : ∀ t : Sh, noL (shD t) = true
  | .nil => rfl
  | .node p l r => by
    show noL.noLs [prW p, shD l, shD r] = true
    simp only [noL.noLs, shD_noL l, shD_noL r]
    rfl
def SzS (t : Sh) : Prop := ∀ e ∈ t.els, Sz 600 e.1
theorem SzS.l {p : Pr} {l r : Sh} (h : SzS (.node p l r)) : SzS l := fun e he => h e (List.mem_cons_of_mem _ (List.mem_append_left _ he))
theorem SzS.r {p : Pr} {l r : Sh} (h : SzS (.node p l r)) : SzS r := fun e he => h e (List.mem_cons_of_mem _ (List.mem_append_right _ he))
theorem SzS.p {p : Pr} {l r : Sh} (h : SzS (.node p l r)) : Sz 600 p.1 := h p List.mem_cons_self
theorem isN_shD (t : Sh) : isN (shD t) = decide (t.size = 0) := by
  cases t with
  | nil => rfl
  | node p l r =>
    have : ¬ (Sh.node p l r).size = 0 := by simp [Sh.size]
    rw [decide_eq_false this]; rfl
theorem keyD_eqv (a b : Nat × Nat) : PyData.eqv (keyD a) (keyD b) = decide (a = b) := by
  have e : PyData.eqv (keyD a) (keyD b) = (((a.1 : Int) == (b.1 : Int)) && (((a.2 : Int) == (b.2 : Int)) && true)) := by simp only [keyD, PyData.eqv, PyData.eqvAll]
  rw [e]
  by_cases h : a = b
  · subst h; simp
  · rw [decide_eq_false h]
    by_cases h1 : a.1 = b.1
    · have h2 : a.2 ≠ b.2 := fun z => h (Prod.ext h1 z)
      have : ((a.2 : Int) == (b.2 : Int)) = false := beq_eq_false_iff_ne.mpr (by omega)
      rw [this]; simp
    · have : ((a.1 : Int) == (b.1 : Int)) = false := beq_eq_false_iff_ne.mpr (by omega)
      rw [this]; rfl
theorem prW_eqv (a b : Pr) : PyData.eqv (prW a) (prW b) = decide (a = b) := by
  have e : PyData.eqv (prW a) (prW b) = (PyData.eqv (nm a.1) (nm b.1) && (PyData.eqv (keyD a.2) (keyD b.2) && true)) := by simp only [prW, PyData.eqv, PyData.eqvAll]
  rw [e, nm_eqv, keyD_eqv, Bool.and_true]
  by_cases h : a = b
  · subst h; simp
  · rw [decide_eq_false h]
    by_cases h1 : a.1 = b.1
    · have h2 : a.2 ≠ b.2 := fun z => h (Prod.ext h1 z)
      rw [decide_eq_false h2, Bool.and_false]
    · rw [decide_eq_false h1]; rfl
theorem shp_key (k : Nat × Nat) : Shp 1 (keyD k) := shp_pair (shp_int _) (shp_int _)
theorem shp_prW (e : Pr) : Shp 2 (prW e) := shp_pair (shp_nm _) (shp_key _)
section
variable {P : Program} {w : World} {K : PySem.W.Frag} {mg : Str → Option Value} {base : Heap} {B : Hp} {G : List Sl} {te ta tb tt td : TE}
theorem ev_t0 {a : PD} {ds : List PD} (h : Ev K B te G (.tuple (a :: ds))) : Ev K B (tOp (rIxT K) te (tC (.int 0))) G a := ev_ixT h ev_int.p (atI_nat (j := 0) rfl)
theorem ev_t1 {a b : PD} {ds : List PD} (h : Ev K B te G (.tuple (a :: b :: ds))) : Ev K B (tOp (rIxT K) te (tC (.int 1))) G b := ev_ixT h ev_int.p (atI_nat (j := 1) rfl)
theorem ev_t2 {a b c : PD} {ds : List PD} (h : Ev K B te G (.tuple (a :: b :: c :: ds))) : Ev K B (tOp (rIxT K) te (tC (.int 2))) G c := ev_ixT h ev_int.p (atI_nat (j := 2) rfl)
theorem op_ltK {a b : Nat × Nat} : Op K (rLtT K) (keyD a) (keyD b) (.bool (decide (a.1 < b.1) || (decide (a.1 = b.1) && decide (a.2 < b.2)))) := fun H v1 v2 h1 h2 Q q => by
  have key : ∀ {c : Nat × Nat} {v : V}, Dp K H v (keyD c) → ∃ p, v = .ref p ∧ SqT K H p (([(c.1 : Int), (c.2 : Int)] : List Int).map V.int) := by
    intro c v h
    cases h with
    | @tup p xs _ hs hd =>
      cases hd with
      | cons g1 g2 =>
        cases g2 with
        | cons g2 g3 =>
          cases g1; cases g2; cases g3
          exact ⟨p, rfl, hs⟩
  obtain ⟨p1, rfl, s1⟩ := key h1
  obtain ⟨p2, rfl, s2⟩ := key h2
  refine ⟨p1, p2, _, _, rfl, rfl, s1, s2, ?_⟩
  have e : HT.lexLt [(a.1 : Int), (a.2 : Int)] [(b.1 : Int), (b.2 : Int)] = (decide (a.1 < b.1) || (decide (a.1 = b.1) && decide (a.2 < b.2))) := by
    rw [HT.lexLt_cons]
    by_cases c : a.1 = b.1
    · rw [if_pos (by omega), HT.lexLt_cons, HT.lexLt_nil_nil]
      have : decide (a.1 < b.1) = false := decide_eq_false (by omega)
      rw [this, decide_eq_true c, Bool.false_or, Bool.true_and]
      by_cases c2 : a.2 = b.2
      · rw [if_pos (by omega), decide_eq_false (by omega)]
      · rw [if_neg (by omega)]; exact nat_lt
    · rw [if_neg (by omega), decide_eq_false c, Bool.false_and, Bool.or_false]; exact nat_lt
  rw [e]
  exact q _ fun _ => .bl _
/-! comes_ahead -/
def R_comes_ahead (ds : List PD) (d : PD) : Prop := ∃ a b : Pr, Sz 600 a.1 ∧ Sz 600 b.1 ∧ ds = [prW a, prW b] ∧ d = .bool (ca a b)
abbrev s_comes_ahead : Stmt := topS 46
theorem sc_comes_ahead : FnScope ["pair", "other"] ["pair", "other"] (defScope s_comes_ahead) := ⟨rfl, rfl, rfl, by decide +kernel, rfl, by decide +kernel, by decide +kernel⟩
theorem ok_comes_ahead (D : Df K mg "comes_ahead" s_comes_ahead ["pair", "other"]) (C_is_less : Cal P w K mg base 1 "is_less" ["a", "b"] (SpI K R_is_less)) : Cal P w K mg base 2 "comes_ahead" ["pair", "other"] (SpI K R_comes_ahead) := by
  refine Cal.ofI D sc_comes_ahead (by decide) (fun ds d h => by obtain ⟨a, b, _, _, rfl, _⟩ := h; rfl) (fun f cdv A outer s H E hr ds d h => ?_)
  obtain ⟨a, b, ha, hb, rfl, rfl⟩ := h
  refine ⟨_, (pss_cons (ps_if (pt_cmpR (op_neD hr.units) (pe_ix (ix_tupK (K := K) rfl) (pv 0) pe_int (fun _ _ => rfl)) (pe_ix (ix_tupK (K := K) rfl) (pv 1) pe_int (fun _ _ => rfl)) (nomark _)) (pss_one (ps_ret (pe_cal C_is_less (hr.mono (by omega)) (by rfl) (pa_cons (pe_ix (ix_tupK (K := K) rfl) (pv 0) pe_int (fun _ _ => rfl)) (pa_cons (pe_ix (ix_tupK (K := K) rfl) (pv 1) pe_int (fun _ _ => rfl)) pa_nil))))) pss_nil)
      (pss_one (ps_ret (pe_cmpR (op_ltT hr.units0) (pe_ix (ix_tupK (K := K) rfl) (pv 0) pe_int (fun _ _ => rfl)) (pe_ix (ix_tupK (K := K) rfl) (pv 1) pe_int (fun _ _ => rfl)) (nomark _))))), ?_⟩
  refine s_seq (s_if (et_test (ev_ne_nm (ev_t0 (ev_var rfl)).p (ev_t0 (ev_var rfl)).p)) (fun h => s_ret (ev_is_less (szb ha) (szb hb) (ev_t0 (ev_var rfl)).p (ev_t0 (ev_var rfl)).p) ?_) (fun h => s_next (s_ret (ev_op (ev_t1 (ev_var rfl)).p (ev_t1 (ev_var rfl)).p op_ltK) ?_)))
  · have hn : ¬ a.1 = b.1 := by simpa using h
    unfold ca; rw [if_neg hn]
  · have hn : a.1 = b.1 := by simpa using h
    unfold ca; rw [if_pos hn]
theorem ev_comes_ahead {a b : Pr} (ha : Sz 600 a.1) (hb : Sz 600 b.1) (h : EvP K B ta G (prW a)) (h' : EvP K B tb G (prW b)) : Ev K B (tCall (SpI K R_comes_ahead) [] E0 (tCons ta (tCons tb tNil))) G (.bool (ca a b)) := ev_call (eap_cons h (eap_cons h' eap_nil)) ⟨a, b, ha, hb, rfl, rfl⟩ rfl
/-! right_way -/
def R_right_way (m : Nat) (ds : List PD) (d : PD) : Prop := ∃ t : Sh, t.size ≤ m ∧ ds = [shD t] ∧ d = .int (rw' t : Nat)
abbrev s_right_way : Stmt := topS 47
theorem sc_right_way : FnScope ["shape"] ["shape"] (defScope s_right_way) := ⟨rfl, rfl, rfl, by decide +kernel, rfl, by decide +kernel, by decide +kernel⟩
theorem ok_right_way (D : Df K mg "right_way" s_right_way ["shape"]) : ∀ m, Cal P w K mg base (m + 1) "right_way" ["shape"] (SpI K (R_right_way m))
  | 0 => by
    refine Cal.ofI D sc_right_way (by decide) (fun ds d h => by obtain ⟨t, _, rfl, _⟩ := h; rfl) (fun f cdv A outer s H E hr ds d h => ?_)
    obtain ⟨t, ht, rfl, rfl⟩ := h
    refine ⟨_, (pss_cons (ps_if (pt_cmpR op_isN (pv 0) pe_non (nomark _)) (pss_one (ps_ret pe_int)) pss_nil) pss_never), ?_⟩
    cases t with
    | nil => exact s_seq (s_if (b := true) (et_test ((ev_op (ev_var rfl).p ev_non.p op_is').is rfl)) (fun _ => s_ret ev_int rfl) (fun z => nomatch z))
    | node p l r => simp [Sh.size] at ht
  | m + 1 => by
    have C_right_way := ok_right_way D m
    refine Cal.ofI D sc_right_way (by decide) (fun ds d h => by obtain ⟨t, _, rfl, _⟩ := h; rfl) (fun f cdv A outer s H E hr ds d h => ?_)
    obtain ⟨t, ht, rfl, rfl⟩ := h
    have hr' : Room (m + 1) _ := hr
    refine ⟨_, (pss_cons (ps_if (pt_cmpR op_isN (pv 0) pe_non (nomark _)) (pss_one (ps_ret pe_int)) pss_nil)
      (pss_one (ps_ret (pe_op op_add pe_int (pe_cal C_right_way (hr.mono (by omega)) (by rfl) (pa_cons (pe_ix (ix_tupK (K := K) rfl) (pv 0) pe_int (fun _ _ => rfl)) pa_nil)))))), ?_⟩
    cases t with
    | nil => exact s_seq (s_if (b := true) (et_test ((ev_op (ev_var rfl).p ev_non.p op_is').is rfl)) (fun _ => s_ret ev_int rfl) (fun z => nomatch z))
    | node p l r =>
      refine s_seq (s_if (b := false) (et_test ((ev_op (ev_var rfl).p ev_non.p op_is').is rfl)) (fun z => nomatch z) (fun _ => s_next (s_ret ((ev_op ev_int.p (ev_call (d := .int (rw' r : Nat)) (eap_cons (ev_t2 (ev_var rfl)).p eap_nil) ⟨r, ?_, rfl, rfl⟩ rfl).p op_i0)) ?_)))
      rotate_left
      · simp only [Sh.size] at ht; omega
      · show Rt.im (.int ((1 : Int) + (rw' r : Int))) = Rt.im (.int ((1 + rw' r : Nat) : Int))
        rw [Int.natCast_add]; rfl
/-! laid -/
def R_laid (ds : List PD) (d : PD) : Prop := ∃ (p : Pr) (a b : Sh), a.size ≤ 8 ∧ b.size ≤ 8 ∧ ds = [prW p, shD a, shD b] ∧ d = shD (laidS p a b)
abbrev s_laid : Stmt := topS 48
theorem sc_laid : FnScope ["pair", "one", "other"] ["pair", "one", "other"] (defScope s_laid) := ⟨rfl, rfl, rfl, by decide +kernel, rfl, by decide +kernel, by decide +kernel⟩
theorem ok_laid (D : Df K mg "laid" s_laid ["pair", "one", "other"]) (C_right_way : Cal P w K mg base 9 "right_way" ["shape"] (SpI K (R_right_way 8))) : Cal P w K mg base 10 "laid" ["pair", "one", "other"] (SpI K R_laid) := by
  refine Cal.ofI D sc_laid (by decide) (fun ds d h => by obtain ⟨p, a, b, _, _, rfl, _⟩ := h; rfl) (fun f cdv A outer s H E hr ds d h => ?_)
  obtain ⟨p, a, b, ha, hb, rfl, rfl⟩ := h
  refine ⟨_, (pss_cons (ps_if (pt_cmpR op_lt (pe_cal C_right_way (hr.mono (by omega)) (by rfl) (pa_cons (pv 1) pa_nil)) (pe_cal C_right_way (hr.mono (by omega)) (by rfl) (pa_cons (pv 2) pa_nil)) (nomark _)) (pss_one (ps_ret (pe_tup (pa_cons (pv 0) (pa_cons (pv 2) (pa_cons (pv 1) pa_nil)))))) pss_nil)
      (pss_one (ps_ret (pe_tup (pa_cons (pv 0) (pa_cons (pv 1) (pa_cons (pv 2) pa_nil))))))), ?_⟩
  have rwv : ∀ {i : Nat} {t : Sh} {G : List Sl}, t.size ≤ 8 → G[i]? = some (.im (shD t)) → Ev K H (tCall (SpI K (R_right_way 8)) [] E0 (tCons (tVar i) tNil)) G (.int (rw' t : Nat)) := fun ht hi => ev_call (eap_cons (ev_var hi).p eap_nil) ⟨_, ht, rfl, rfl⟩ rfl
  refine s_seq (s_if (et_test (ev_op (rwv ha rfl).p (rwv hb rfl).p op_ib)) (fun h => s_ret (ev_tup (ea_cons (ev_var rfl) (ea_cons (ev_var rfl) (ea_cons (ev_var rfl) ea_nil)))) ?_) (fun h => s_next (s_ret (ev_tup (ea_cons (ev_var rfl) (ea_cons (ev_var rfl) (ea_cons (ev_var rfl) ea_nil)))) ?_)))
  · have : rw' a < rw' b := by
      have := of_decide_eq_true h
      omega
    unfold laidS; rw [if_pos this]; rfl
  · have : ¬ rw' a < rw' b := by
      have := of_decide_eq_false h
      omega
    unfold laidS; rw [if_neg this]; rfl
theorem ev_laid {p : Pr} {a b : Sh} (ha : a.size ≤ 8) (hb : b.size ≤ 8) (h1 : EvP K B ta G (prW p)) (h2 : EvP K B tb G (shD a)) (h3 : EvP K B tt G (shD b)) : Ev K B (tCall (SpI K R_laid) [] E0 (tCons ta (tCons tb (tCons tt tNil)))) G (shD (laidS p a b)) := ev_call (eap_cons h1 (eap_cons h2 (eap_cons h3 eap_nil))) ⟨p, a, b, ha, hb, rfl, rfl⟩ (shD_noL _)
/-! merged -/
def R_merged (m : Nat) (ds : List PD) (d : PD) : Prop := ∃ a b : Sh, a.size + b.size ≤ m ∧ m ≤ 8 ∧ SzS a ∧ SzS b ∧ ds = [shD a, shD b] ∧ d = shD (LT.mg a b)
abbrev s_merged : Stmt := topS 49
theorem sc_merged : FnScope ["one", "other"] ["one", "other"] (defScope s_merged) := ⟨rfl, rfl, rfl, by decide +kernel, rfl, by decide +kernel, by decide +kernel⟩
theorem ok_merged (D : Df K mg "merged" s_merged ["one", "other"]) (C_comes_ahead : Cal P w K mg base 2 "comes_ahead" ["pair", "other"] (SpI K R_comes_ahead)) (C_laid : Cal P w K mg base 10 "laid" ["pair", "one", "other"] (SpI K R_laid)) : ∀ m, Cal P w K mg base (11 + m) "merged" ["one", "other"] (SpI K (R_merged m))
  | 0 => by
    refine Cal.ofI D sc_merged (by decide) (fun ds d h => by obtain ⟨a, b, _, _, _, _, rfl, _⟩ := h; rfl) (fun f cdv A outer s H E hr ds d h => ?_)
    obtain ⟨a, b, hs, _, _, _, rfl, rfl⟩ := h
    refine ⟨_, (pss_cons (ps_if (pt_cmpR op_isN (pv 0) pe_non (nomark _)) (pss_one (ps_ret (pv 1))) pss_nil) pss_never), ?_⟩
    cases a with
    | nil =>
      refine s_seq (s_if (b := true) (et_test ((ev_op (ev_var rfl).p ev_non.p op_is').is rfl)) (fun _ => s_ret (ev_var rfl) ?_) (fun z => nomatch z))
      unfold LT.mg; rfl
    | node p l r => simp [Sh.size] at hs
  | m + 1 => by
    have C_merged := ok_merged D C_comes_ahead C_laid m
    refine Cal.ofI D sc_merged (by decide) (fun ds d h => by obtain ⟨a, b, _, _, _, _, rfl, _⟩ := h; rfl) (fun f cdv A outer s H E hr ds d h => ?_)
    obtain ⟨a, b, hs, hm, sa, sb, rfl, rfl⟩ := h
    have hr : Room (11 + m) _ := hr
    refine ⟨_, (pss_cons (ps_if (pt_cmpR op_isN (pv 0) pe_non (nomark _)) (pss_one (ps_ret (pv 1))) pss_nil)
      (pss_cons (ps_if (pt_cmpR op_isN (pv 1) pe_non (nomark _)) (pss_one (ps_ret (pv 0))) pss_nil)
      (pss_cons (ps_if (pt_val (pe_cal C_comes_ahead (hr.mono (by omega)) (by rfl) (pa_cons (pe_ix (ix_tupK (K := K) rfl) (pv 1) pe_int (fun _ _ => rfl)) (pa_cons (pe_ix (ix_tupK (K := K) rfl) (pv 0) pe_int (fun _ _ => rfl)) pa_nil)))) (pss_one (ps_par (i := 0) (j := 1) (by rfl) sc_merged.nd rfl rfl (by decide) rfl rfl (pa_cons (pv 1) (pa_cons (pv 0) pa_nil)) (by rfl))) pss_nil)
      (pss_one (ps_ret (pe_cal C_laid (hr.mono (by omega)) (by rfl) (pa_cons (pe_ix (ix_tupK (K := K) rfl) (pv 0) pe_int (fun _ _ => rfl)) (pa_cons (pe_ix (ix_tupK (K := K) rfl) (pv 0) pe_int (fun _ _ => rfl)) (pa_cons (pe_cal C_merged (hr.mono (by omega)) (by rfl) (pa_cons (pe_ix (ix_tupK (K := K) rfl) (pv 0) pe_int (fun _ _ => rfl)) (pa_cons (pv 1) pa_nil))) pa_nil))))))))), ?_⟩
    cases a with
    | nil =>
      refine s_seq (s_if (b := true) (et_test ((ev_op (ev_var rfl).p ev_non.p op_is').is rfl)) (fun _ => s_ret (ev_var rfl) ?_) (fun z => nomatch z))
      unfold LT.mg; rfl
    | node p l r =>
      refine s_seq (s_if (b := false) (et_test ((ev_op (ev_var rfl).p ev_non.p op_is').is rfl)) (fun z => nomatch z) (fun _ => s_next ?_))
      cases b with
      | nil =>
        refine s_seq (s_if (b := true) (et_test ((ev_op (ev_var rfl).p ev_non.p op_is').is rfl)) (fun _ => s_ret (ev_var rfl) ?_) (fun z => nomatch z))
        unfold LT.mg; rfl
      | node q l' r' =>
        refine s_seq (s_if (b := false) (et_test ((ev_op (ev_var rfl).p ev_non.p op_is').is rfl)) (fun z => nomatch z) (fun _ => s_next ?_))
        have fin : ∀ (p : Pr) (l r b : Sh), (Sh.node p l r).size + b.size ≤ m + 1 → SzS (.node p l r) → SzS b → St K H (tRet (tCall (SpI K R_laid) [] E0 (tCons (tOp (rIxT K) (tVar 0) (tC (.int 0))) (tCons (tOp (rIxT K) (tVar 0) (tC (.int 1))) (tCons (tCall (SpI K (R_merged m)) [] E0 (tCons (tOp (rIxT K) (tVar 0) (tC (.int 2))) (tCons (tVar 1) tNil))) tNil)))))
            [.im (shD (.node p l r)), .im (shD b)] (fun _ => False) (fun x => x = .im (shD (laidS p l (LT.mg r b)))) := by
          intro p l r b hz s1 s2
          simp only [Sh.size] at hz
          have hms := mg_size r b
          exact s_ret (ev_laid (by omega) (by omega) (ev_t0 (ev_var rfl)).p (ev_t1 (ev_var rfl)).p (ev_call (eap_cons (ev_t2 (ev_var rfl)).p (eap_cons (ev_var rfl).p eap_nil)) ⟨r, b, by omega, by omega, s1.r, s2, rfl, rfl⟩ (shD_noL _)).p) rfl
        by_cases c : ca q p = true
        · have e : LT.mg (Sh.node p l r) (.node q l' r') = laidS q l' (LT.mg r' (Sh.node p l r)) := by
            conv => lhs; unfold LT.mg
            rw [if_pos c]
          rw [e]
          refine s_seq (s_if (b := true) (et_B ((ev_comes_ahead sb.p sa.p (ev_t0 (ev_var rfl)).p (ev_t0 (ev_var rfl)).p).is (by rw [c]))) (fun _ => s_par (ea_cons (ev_var rfl) (ea_cons (ev_var rfl) ea_nil)) ?_) (fun z => nomatch z))
          exact fin q l' r' (.node p l r) (by simp only [Sh.size] at *; omega) sb sa
        · have c' : ca q p = false := by simpa using c
          have e : LT.mg (Sh.node p l r) (.node q l' r') = laidS p l (LT.mg r (Sh.node q l' r')) := by
            conv => lhs; unfold LT.mg
            rw [if_neg c]
          rw [e]
          refine s_seq (s_if (b := false) (et_B ((ev_comes_ahead sb.p sa.p (ev_t0 (ev_var rfl)).p (ev_t0 (ev_var rfl)).p).is (by rw [c']))) (fun z => nomatch z) (fun _ => s_next ?_))
          exact fin p l r (.node q l' r') hs sa sb
/-! without -/
def R_without (m : Nat) (ds : List PD) (d : PD) : Prop := ∃ (t : Sh) (p : Pr), t.size ≤ m ∧ m ≤ 8 ∧ SzS t ∧ Sz 600 p.1 ∧ ds = [shD t, prW p] ∧ d = shD (wo t p)
abbrev s_without : Stmt := topS 50
theorem sc_without : FnScope ["shape", "pair"] ["shape", "pair"] (defScope s_without) := ⟨rfl, rfl, rfl, by decide +kernel, rfl, by decide +kernel, by decide +kernel⟩
theorem wo_size : ∀ (t : Sh) (p : Pr), (wo t p).size ≤ t.size
  | .nil, _ => Nat.le_refl _
  | .node q l r, p => by
    have h1 := wo_size l p
    have h2 := wo_size r p
    have h3 := mg_size l r
    unfold wo
    split
    · exact Nat.le_refl _
    · split
      · simp only [Sh.size]; omega
      · unfold laidS
        split <;> (simp only [Sh.size]; omega)
theorem ok_without (D : Df K mg "without" s_without ["shape", "pair"]) (C_comes_ahead : Cal P w K mg base 2 "comes_ahead" ["pair", "other"] (SpI K R_comes_ahead)) (C_laid : Cal P w K mg base 10 "laid" ["pair", "one", "other"] (SpI K R_laid)) (C_merged : Cal P w K mg base 19 "merged" ["one", "other"] (SpI K (R_merged 8))) : ∀ m, Cal P w K mg base (20 + m) "without" ["shape", "pair"] (SpI K (R_without m))
  | 0 => by
    refine Cal.ofI D sc_without (by decide) (fun ds d h => by obtain ⟨t, p, _, _, _, _, rfl, _⟩ := h; rfl) (fun f cdv A outer s H E hr ds d h => ?_)
    obtain ⟨t, p, hs, _, _, _, rfl, rfl⟩ := h
    refine ⟨_, (pss_cons (ps_if (PW.pt (pw_or (pt_cmpR op_isN (pv 0) pe_non (nomark _)) (pw_or1 (pt_val (pe_cal C_comes_ahead (hr.mono (by omega)) (by rfl) (pa_cons (pv 1) (pa_cons (pe_ix (ix_tupK (K := K) rfl) (pv 0) pe_int (fun _ _ => rfl)) pa_nil))))))) (pss_one (ps_ret (pv 0))) pss_nil) pss_never), ?_⟩
    cases t with
    | nil => exact s_seq (s_if (b := true) ((et_or (b := false) (et_test ((ev_op (ev_var rfl).p ev_non.p op_is'))) (fun z => absurd z (by decide))).is rfl) (fun _ => s_ret (ev_var rfl) rfl) (fun z => nomatch z))
    | node p l r => simp [Sh.size] at hs
  | m + 1 => by
    have C_without := ok_without D C_comes_ahead C_laid C_merged m
    refine Cal.ofI D sc_without (by decide) (fun ds d h => by obtain ⟨t, p, _, _, _, _, rfl, _⟩ := h; rfl) (fun f cdv A outer s H E hr ds d h => ?_)
    obtain ⟨t, p, hs, hm, st, sp, rfl, rfl⟩ := h
    have hr : Room (20 + m) _ := hr
    refine ⟨_, (pss_cons (ps_if (PW.pt (pw_or (pt_cmpR op_isN (pv 0) pe_non (nomark _)) (pw_or1 (pt_val (pe_cal C_comes_ahead (hr.mono (by omega)) (by rfl) (pa_cons (pv 1) (pa_cons (pe_ix (ix_tupK (K := K) rfl) (pv 0) pe_int (fun _ _ => rfl)) pa_nil))))))) (pss_one (ps_ret (pv 0))) pss_nil)
      (pss_cons (ps_if (pt_cmpR (op_eqD hr.units) (pe_ix (ix_tupK (K := K) rfl) (pv 0) pe_int (fun _ _ => rfl)) (pv 1) (nomark _)) (pss_one (ps_ret (pe_cal C_merged (hr.mono (by omega)) (by rfl) (pa_cons (pe_ix (ix_tupK (K := K) rfl) (pv 0) pe_int (fun _ _ => rfl)) (pa_cons (pe_ix (ix_tupK (K := K) rfl) (pv 0) pe_int (fun _ _ => rfl)) pa_nil))))) pss_nil)
      (pss_one (ps_ret (pe_cal C_laid (hr.mono (by omega)) (by rfl) (pa_cons (pe_ix (ix_tupK (K := K) rfl) (pv 0) pe_int (fun _ _ => rfl)) (pa_cons (pe_cal C_without (hr.mono (by omega)) (by rfl) (pa_cons (pe_ix (ix_tupK (K := K) rfl) (pv 0) pe_int (fun _ _ => rfl)) (pa_cons (pv 1) pa_nil))) (pa_cons (pe_cal C_without (hr.mono (by omega)) (by rfl) (pa_cons (pe_ix (ix_tupK (K := K) rfl) (pv 0) pe_int (fun _ _ => rfl)) (pa_cons (pv 1) pa_nil))) pa_nil)))))))), ?_⟩
    cases t with
    | nil => exact s_seq (s_if (b := true) ((et_or (b := false) (et_test ((ev_op (ev_var rfl).p ev_non.p op_is'))) (fun z => absurd z (by decide))).is rfl) (fun _ => s_ret (ev_var rfl) rfl) (fun z => nomatch z))
    | node q l r =>
      simp only [Sh.size] at hs
      have hq : wo (Sh.node q l r) p = if ca p q = true then Sh.node q l r else if q = p then LT.mg l r else laidS q (wo l p) (wo r p) := by conv => lhs; unfold wo
      rw [hq]
      refine s_seq (s_if (b := ca p q) ((et_or (et_test (ev_op (ev_var rfl).p ev_non.p op_is')) (fun _ => et_B (ev_comes_ahead sp st.p (ev_var rfl).p (ev_t0 (ev_var rfl)).p))).is rfl) (fun hb => s_ret (ev_var rfl) (by rw [if_pos hb])) (fun hb => s_next ?_))
      rw [if_neg (by rw [hb]; exact Bool.false_ne_true)]
      refine s_seq (s_if (b := decide (q = p)) (et_test ((ev_op (ev_t0 (ev_var rfl)).p (ev_var rfl).p (op_eq' (shp_prW _).sh (shp_prW _).sh)).is (by rw [prW_eqv]))) (fun hb2 => s_ret (ev_call (eap_cons (ev_t1 (ev_var rfl)).p (eap_cons (ev_t2 (ev_var rfl)).p eap_nil)) ⟨l, r, by omega, Nat.le_refl _, st.l, st.r, rfl, rfl⟩ (shD_noL _)) (by rw [if_pos (of_decide_eq_true hb2)])) (fun hb2 => s_next ?_))
      rw [if_neg (of_decide_eq_false hb2)]
      have w1 := wo_size l p
      have w2 := wo_size r p
      exact s_ret (ev_laid (by omega) (by omega) (ev_t0 (ev_var rfl)).p (ev_call (eap_cons (ev_t1 (ev_var rfl)).p (eap_cons (ev_var rfl).p eap_nil)) ⟨l, p, by omega, by omega, st.l, sp, rfl, rfl⟩ (shD_noL _)).p (ev_call (eap_cons (ev_t2 (ev_var rfl)).p (eap_cons (ev_var rfl).p eap_nil)) ⟨r, p, by omega, by omega, st.r, sp, rfl, rfl⟩ (shD_noL _)).p) rfl
end
end PF

-- P15
set_option linter.all false
set_option maxRecDepth 100000
set_option maxHeartbeats 2000000
namespace PF
open PySem PySem.Spec PyProof.Rows L2 LT
/-! ### dicts whose keys are pairs (time, key) -/
def nkn (q : Rat) : NestedKey := .tup [.num q.num, .num (q.den : Int)]
def nkk (k : Nat × Nat) : NestedKey := .tup [.num (k.1 : Int), .num (k.2 : Int)]
def nk (p : Pr) : NestedKey := .tup [nkn p.1, nkk p.2]
theorem nk_inj {p q : Pr} (h : nk p = nk q) : p = q := by
  obtain ⟨a, k1, k2⟩ := p
  obtain ⟨b, l1, l2⟩ := q
  simp only [nk, nkn, nkk, NestedKey.tup.injEq, List.cons.injEq, NestedKey.num.injEq, and_true] at h
  obtain ⟨⟨h1, h2⟩, h3, h4⟩ := h
  have e : a = b := Rat.ext h1 (by omega)
  have e2 : k1 = l1 := by omega
  have e3 : k2 = l2 := by omega
  subst e e2 e3
  rfl
theorem nk_nodup : ∀ {ps : List Pr}, ps.Nodup → (ps.map nk).Nodup
  | [], _ => List.nodup_nil
  | p :: ps, h => by
    rw [List.nodup_cons] at h
    rw [List.map_cons, List.nodup_cons]
    refine ⟨fun z => ?_, nk_nodup h.2⟩
    obtain ⟨q, hq, e⟩ := List.mem_map.mp z
    exact h.1 (nk_inj e ▸ hq)
theorem nk_depth (p : Pr) : (nk p).depth ≤ 8 := by
  simp [nk, nkn, nkk, NestedKey.depth, NestedKey.depthAll]
abbrev XE := NestedKey × Addr × Value
def RawD (P : Program) (w : World) (d : Addr) (xs : List XE) (h : Heap) : Prop :=
  ∃ o es ep, h.get? d = some o ∧ o.ExactDict ∧ o.data = .dict es ep ∧ es.toList = xs.map (entryOfKey (nestedKind P w))
/-- at d stands a dict whose keys are ps -/
def KAt (P : Program) (w : World) (K : PySem.W.Frag) (H : Hp) (d : Addr) (ps : List Pr) : Prop :=
  ∃ xs : List XE, H d = some (.ext (RawD P w d xs)) ∧ xs.map (·.1) = ps.map nk ∧ (∀ x ∈ xs, ∃ p, x.1 = nk p ∧ Dp K H (.ref x.2.1) (prW p)) ∧ (∀ x ∈ xs, x.2.2 = .bool true) ∧ ps.Nodup ∧ (d == sysModules) = false
theorem dp_mono {K : PySem.W.Frag} {H H' : Hp} {v : V} {d : PD} (n : noL d = true) (t : ∀ a xs, SqT K H a xs → SqT K H' a xs) (h : Dp K H v d) : Dp K H' v d :=
  Dq.dp (B := fun _ => none) (fun _ _ e => nomatch e) ((dq_of (B := fun _ => none) n h).mono t)
theorem prW_noL (p : Pr) : noL (prW p) = true := rfl
section
variable {P : Program} {w : World} {K : PySem.W.Frag} {H H' : Hp} {d : Addr} {ps : List Pr}
theorem KAt.mono (h : KAt P w K H d ps) (hd : H' d = H d) (t : ∀ a xs, SqT K H a xs → SqT K H' a xs) : KAt P w K H' d ps := by
  obtain ⟨xs, h1, h2, h3, hv, h4, h5⟩ := h
  exact ⟨xs, hd.trans h1, h2, fun x hx => let ⟨p, e, g⟩ := h3 x hx; ⟨p, e, dp_mono (prW_noL p) t g⟩, hv, h4, h5⟩
theorem KAt.isExt (h : KAt P w K H d ps) : ∃ φ, H d = some (.ext φ) := let ⟨xs, h1, _⟩ := h; ⟨_, h1⟩
theorem ts_ext {φ : Heap → Prop} {o : HO} (hd : H d = some (.ext φ)) (a : Addr) (xs : List V) (h : SqT K H a xs) : SqT K (upd H d o) a xs := by
  rcases h with (h | ⟨ob, h⟩) | h
  · have : a ≠ d := by rintro rfl; rw [hd] at h; cases h
    exact .inl (.inl (by rw [upd_ne this]; exact h))
  · have : a ≠ d := by rintro rfl; rw [hd] at h; cases h
    exact .inl (.inr ⟨ob, by rw [upd_ne this]; exact h⟩)
  · exact .inr h
end
section
variable {X : Cx} {pins : List (Addr × Obj)} {σ : L2.St} {H : Hp} {s : Shared}
theorem ints_at {i j : Int} {v : V} {u : Value} (I : Inv X pins σ H s) (h : Dp X.K H v (.tuple [.int i, .int j])) (r : RelV v u) : NestedIs s.heap (.tup [.num i, .num j]) u := by
  cases h with
  | tup hs hd =>
    cases hd with
    | cons g1 g2 =>
      cases g2 with
      | cons g2 g3 =>
        cases g1; cases g2; cases g3
        cases r
        obtain ⟨its, rv, ⟨o, e, c, n, hdat⟩, _⟩ := I.tuple hs
        cases rv with
        | cons r1 r2 =>
          cases r2 with
          | cons r2 r3 =>
            cases r3
            obtain ⟨t1, rfl⟩ := r1
            obtain ⟨t2, rfl⟩ := r2
            exact .tup e c hdat (.cons (.int _ _) (.cons (.int _ _) .nil))
theorem key_at {p : Pr} {v : V} {u : Value} (I : Inv X pins σ H s) (h : Dp X.K H v (prW p)) (r : RelV v u) : NestedIs s.heap (nk p) u := by
  cases h with
  | tup hs hd =>
    cases hd with
    | cons g1 g2 =>
      cases g2 with
      | cons g2 g3 =>
        cases g3
        cases r
        obtain ⟨its, rv, ⟨o, e, c, n, hdat⟩, _⟩ := I.tuple hs
        cases rv with
        | cons r1 r2 =>
          cases r2 with
          | cons r2 r3 =>
            cases r3
            exact .tup e c hdat (.cons (ints_at I g1 r1) (.cons (ints_at I g2 r2) .nil))
theorem dp_ref {p : Pr} {v : V} {K : PySem.W.Frag} (h : Dp K H v (prW p)) : ∃ a, v = .ref a := by
  cases h with
  | tup hs hd => exact ⟨_, rfl⟩
theorem atKey_mem {p : Pr} : ∀ {xs : List XE} {ps : List Pr}, xs.map (·.1) = ps.map nk → (atKey xs (nk p)).isSome = decide (p ∈ ps)
  | [], [], _ => rfl
  | [], _ :: _, h => by simp at h
  | _ :: _, [], h => by simp at h
  | x :: xs, q :: ps, h => by
    simp only [List.map_cons, List.cons.injEq] at h
    have ih := atKey_mem (p := p) h.2
    by_cases c : p = q
    · subst c
      simp [atKey, h.1]
    · have c' : ¬ x.1 = nk p := fun z => c (nk_inj (h.1.symm.trans z)).symm
      have e : atKey (x :: xs) (nk p) = atKey xs (nk p) := by simp [atKey, c']
      rw [e, ih]
      simp [c]
theorem KAt.dict {d : Addr} {ps : List Pr} (I : Inv X pins σ H s) (h : KAt X.prog X.w X.K H d ps) : ∃ xs : List XE, H d = some (.ext (RawD X.prog X.w d xs)) ∧ xs.map (·.1) = ps.map nk ∧ (∀ x ∈ xs, ∃ p, x.1 = nk p ∧ Dp X.K H (.ref x.2.1) (prW p)) ∧ (∀ x ∈ xs, x.2.2 = .bool true) ∧ s.heap.DictOfH (nestedKind X.prog X.w) d xs := by
  obtain ⟨xs, h1, h2, h3, hv, h4, h5⟩ := h
  obtain ⟨⟨o, es, ep, g1, g2, g3, g4⟩, _⟩ := I.hok d _ h1
  refine ⟨xs, h1, h2, h3, hv, o, es, ep, g1, g2, g3, g4, fun x hx => ?_, ?_⟩
  · obtain ⟨p, e, g⟩ := h3 x hx
    rw [e]
    exact ⟨key_at I g rfl, nk_depth p⟩
  · rw [h2]
    exact nk_nodup h4
theorem kept_put {d b : Addr} {ps qs : List Pr} {xs ys : List XE} {h' : Heap} {t' : Nat} (I : Inv X pins σ H s) (h : KAt X.prog X.w X.K H d ps) (h1 : H d = some (.ext (RawD X.prog X.w d xs))) (dd : h'.DictOfH (nestedKind X.prog X.w) d ys) (hs : Heap.SameBut d s.heap h')
    (hk : ys.map (·.1) = qs.map nk) (hq : qs.Nodup) (hd : ∀ x ∈ ys, ∃ p, x.1 = nk p ∧ Dp X.K H (.ref x.2.1) (prW p)) (hv : ∀ x ∈ ys, x.2.2 = .bool true) :
    Inv X pins σ (upd H d (.ext (RawD X.prog X.w d ys))) { s with heap := h', toks := t' } ∧ KAt X.prog X.w X.K (upd H d (.ext (RawD X.prog X.w d ys))) d qs := by
  obtain ⟨o, es, ep, g1, g2, g3, g4, g5, g6⟩ := dd
  refine ⟨d_write I (by rw [h1]; exact True.intro) hs ⟨o, g1⟩ ⟨⟨o, es, ep, g1, g2, g3, g4⟩, ⟨o, g1⟩, ?_⟩, ys, upd_same, hk, fun x hx => ?_, hv, hq, ?_⟩
  · rintro k1 k2 ⟨o', es', ep', e1, e2, e3, e4⟩ hst
    exact ⟨o', es', ep', hst _ e1, e2, e3, e4⟩
  · obtain ⟨p, e, g⟩ := hd x hx
    exact ⟨p, e, dp_mono (prW_noL p) (ts_ext h1) g⟩
  · obtain ⟨_, _, _, _, _, _, h5⟩ := h
    exact h5
end
/-! the rules -/
def rKIn (P : Program) (w : World) (K : PySem.W.Frag) : R2 := fun y x H Q => ∃ d p ps, x = .ref d ∧ Dp K H y (prW p) ∧ KAt P w K H d ps ∧ Q (.bl (decide (p ∈ ps))) H
def rKNotIn (P : Program) (w : World) (K : PySem.W.Frag) : R2 := fun y x H Q => ∃ d p ps, x = .ref d ∧ Dp K H y (prW p) ∧ KAt P w K H d ps ∧ Q (.bl (!decide (p ∈ ps))) H
def rKSet (P : Program) (w : World) (K : PySem.W.Frag) : TSet := fun x y v H Q => ∃ d p ps, x = .ref d ∧ v = .bl true ∧ Dp K H y (prW p) ∧ KAt P w K H d ps ∧ p ∉ ps ∧ ps.length ≤ sizeLine ∧ ∀ φ, KAt P w K (upd H d (.ext φ)) d (ps ++ [p]) → Q (upd H d (.ext φ))
def rKPop (P : Program) (w : World) (K : PySem.W.Frag) : V → List V → Hp → VK → Prop := fun x vs H Q => ∃ d p ps y, x = .ref d ∧ vs = [y] ∧ Dp K H y (prW p) ∧ KAt P w K H d ps ∧ p ∈ ps ∧ ps.length ≤ sizeLine ∧ ∀ φ, KAt P w K (upd H d (.ext φ)) d (ps.filter fun q => decide (q ≠ p)) → Q (.bl true) (upd H d (.ext φ))
def tKNew (P : Program) (w : World) (K : PySem.W.Frag) : TE := fun σ H Q => ∀ d φ, H d = none → KAt P w K (upd H d (.ext φ)) d [] → Q (.ref d) (upd H d (.ext φ))
def tKPop (P : Program) (w : World) (K : PySem.W.Frag) (to : TE) (t : TA) : TE := fun σ H Q => to σ H fun x H1 => (∃ d ps, x = .ref d ∧ KAt P w K H1 d ps) ∧ t σ H1 fun xs H2 => rKPop P w K x xs H2 Q
section
variable {X : Cx} {k : Nat}
theorem kin_room {A : Around} (hr : Room k A) : A.in1.units + 8 < cLine := by
  have := hr.un
  show A.units + 1 + 8 < _
  omega
theorem op_kin (hr : Room k X.A) : OpR X (compareOp .In) (rKIn X.prog X.w X.K) := by
  intro pins s σ H x y v u Q I rx ry h
  obtain ⟨d, p, ps, rfl, hy, hk, q⟩ := h
  obtain ⟨b, rfl⟩ := dp_ref hy
  cases rx; cases ry
  obtain ⟨xs, h1, h2, h3, hv, dd⟩ := hk.dict I
  obtain ⟨_, _, _, _, _, _, h5⟩ := hk
  refine wpAny_in_heap (knd := nestedKind X.prog X.w) (k := nk p) (kin_room hr) ⟨key_at I hy rfl, nk_depth p⟩ h5 dd ⟨.bl (decide (p ∈ ps)), H, I.tok _, ?_, q⟩
  rw [atKey_mem (ps := ps) h2]
  rfl
theorem op_knotin (hr : Room k X.A) : OpR X (compareOp .NotIn) (rKNotIn X.prog X.w X.K) := by
  intro pins s σ H x y v u Q I rx ry h
  obtain ⟨d, p, ps, rfl, hy, hk, q⟩ := h
  obtain ⟨b, rfl⟩ := dp_ref hy
  cases rx; cases ry
  obtain ⟨xs, h1, h2, h3, hv, dd⟩ := hk.dict I
  obtain ⟨_, _, _, _, _, _, h5⟩ := hk
  refine wpAny_notIn_heap (knd := nestedKind X.prog X.w) (k := nk p) (kin_room hr) ⟨key_at I hy rfl, nk_depth p⟩ h5 dd ⟨.bl (!decide (p ∈ ps)), H, I.tok _, ?_, q⟩
  rw [atKey_mem (ps := ps) h2]
  rfl
theorem set_kept (hr : Room k X.A) : PSet X (rKSet X.prog X.w X.K) := by
  intro pins s σ H o i v ov iv u Q I ro ri rv h
  obtain ⟨d, p, ps, rfl, rfl, hy, hk, hn, hz, q⟩ := h
  obtain ⟨b, rfl⟩ := dp_ref hy
  cases ro; cases ri
  obtain ⟨xs, h1, h2, h3, hv, dd⟩ := hk.dict I
  have hl : xs.length = ps.length := by simpa using congrArg List.length h2
  have hno : atKey xs (nk p) = none := by
    have e := atKey_mem (ps := ps) (p := p) h2
    rw [decide_eq_false hn] at e
    cases z : atKey xs (nk p) with
    | none => rfl
    | some _ => rw [z] at e; cases e
  refine wpAny_setItem_heap (knd := nestedKind X.prog X.w) (k := nk p) (hsz := by omega) (kin_room hr) ⟨key_at I hy rfl, nk_depth p⟩ dd fun h' dd' hs => ?_
  rw [storedH_new hno] at dd'
  obtain ⟨_, _, _, _, _, hnd, _⟩ := id hk
  obtain ⟨I', hk'⟩ := kept_put (t' := s.toks + (nestedKind X.prog X.w).draws (nk p)) (b := b) I hk h1 dd' hs (qs := ps ++ [p]) (by simp [h2]) (by
    rw [List.nodup_append]
    refine ⟨hnd, by simp, fun a ha c hc => ?_⟩
    have : c = p := by simpa using hc
    subst this
    rintro rfl
    exact hn ha) (fun x hx => by
    rcases List.mem_append.mp hx with z | z
    · exact h3 x z
    · have : x = (nk p, b, u) := by simpa using z
      subst this
      exact ⟨p, rfl, hy⟩) (fun x hx => by
    rcases List.mem_append.mp hx with z | z
    · exact hv x z
    · have : x = (nk p, b, u) := by simpa using z
      subst this
      exact rv)
  exact ⟨_, I', q _ hk'⟩
theorem pe_knew {pos : Pos} : PE X (.Dict [] [] pos) (tKNew X.prog X.w X.K) := ⟨fun pins s σ H Q I h => by
  have hn := I.hok.fresh (Nat.le_refl s.heap.objs.size)
  have hb : (s.heap.objs.size == sysModules) = false := beq_eq_false_iff_ne.mpr (Ne.symm (Nat.ne_of_lt I.big))
  have raw : RawD X.prog X.w s.heap.objs.size [] (s.heap.push { cls := .type "dict", data := .dict #[] }) := ⟨_, #[], 0, Heap.get?_push_size _ rfl, ⟨rfl, rfl, rfl⟩, rfl, rfl⟩
  refine wpAny_Dict_empty ⟨.ref s.heap.objs.size, _, I.laid (a := s.heap.objs.size) (o := .ext (RawD X.prog X.w s.heap.objs.size [])) (t' := s.toks) (fun _ _ q => Heap.get?_push_of_some _ q) (Nat.le_refl _) ⟨raw, ⟨_, Heap.get?_push_size _ rfl⟩, ?_⟩, rfl, h _ _ hn ⟨[], upd_same, rfl, (fun x hx => nomatch hx), (fun x hx => nomatch hx), List.nodup_nil, hb⟩⟩
  rintro k1 k2 ⟨o', es', ep', e1, e2, e3, e4⟩ hst
  exact ⟨o', es', ep', hst _ e1, e2, e3, e4⟩⟩
variable {o e : Expr} {to : TE} {t : TA} {apos cpos : Pos}
theorem pe_kpop (hr : Room k X.A) (ho : PE X o to) (ha : PA X [e] t)
    (hbase : attributeBase o ("pop" : Str) X.env (eval o X.env) = eval o X.env := by rfl)
    (hfew : ((backTo cpos (starEach [e] X.env)).all (fun x => !x.1) && (backToKw cpos (keywordEach [] X.env)).all (fun x => x.1.isSome)
      && decide (([e] : List Expr).length + ([] : List Keyword).length + (if ([] : List Keyword).isEmpty then 0 else 1) < 30)) = true := by rfl)
    (hline : (apos.endLine == cpos.line) = true := by rfl) (hs : starEach [e] X.env = (false, eval e X.env) :: starEach [] X.env := by rfl) (hplain : (backTo cpos (starEach [] X.env)).any (·.1) = false := by rfl) :
    PE X (.Call (.Attribute o "pop" apos) [e] [] cpos) (tKPop X.prog X.w X.K to t) := by
  refine ⟨fun pins s σ H Q I h => ?_⟩
  refine wpAny_Call_method_late hbase hfew hline rfl (thn (ho.run pins s σ H _ I h) fun v s1 ⟨x, H1, I1, r1, ty, q1⟩ => ?_)
  have ty2 : s1.TypeIs v "dict" ∧ ∀ a, v = .ref a → ∃ ob, s1.heap.get? a = some ob ∧ ob.dict = none := by
    obtain ⟨d, ps, rfl, hk⟩ := ty
    cases r1
    obtain ⟨xs, _, _, _, _, o, _, _, e, ex, _⟩ := hk.dict I1
    refine ⟨⟨o, e, ex.1⟩, fun a e2 => ?_⟩
    cases e2
    exact ⟨o, e, ex.2.1⟩
  refine ⟨"dict", "dict.pop", PySem.F.plainAttrs_dict, PySem.F.slot_dict_pop, PySem.F.type_dict_pop, ty2.1, ty2.2, ?_⟩
  have hA := ha.run cpos pins s1 σ H1 _ I1 q1
  rw [hs] at hA ⊢
  refine Calls.callWith_builtin (by show (false || (backTo cpos (starEach [] X.env)).any (·.1)) = false; rw [hplain] <;> rfl) (Calls.evalArgs_plain ?_)
  refine thn hA fun us s2 ⟨vs, H2, I2, r2, q2⟩ => ?_
  obtain ⟨d, p, ps, y, rfl, rfl, hy, hk, hm, hz, q⟩ := q2
  obtain ⟨b, rfl⟩ := dp_ref hy
  cases r1
  cases r2 with
  | cons rb rn =>
    cases rn
    cases rb
    obtain ⟨xs, h1, h2, h3, hv, dd⟩ := hk.dict I2
    have hl : xs.length = ps.length := by simpa using congrArg List.length h2
    have hsome : (atKey xs (nk p)).isSome = true := by rw [atKey_mem (ps := ps) h2, decide_eq_true hm]
    obtain ⟨pv, hpv⟩ := Option.isSome_iff_exists.mp hsome
    obtain ⟨_, _, _, _, _, hnd, h5⟩ := id hk
    refine call_pop_heap (knd := nestedKind X.prog X.w) (k := nk p) (hsz := by omega) (.inl rfl) (PySem.F.args_dict_pop_2 _ _) (kin_room hr) ⟨key_at I2 hy rfl, nk_depth p⟩ h5 dd hpv fun h' dd' hs => ?_
    have hmap : ∀ (xs : List XE) (ps : List Pr), xs.map (·.1) = ps.map nk → (withoutH xs (nk p)).map (·.1) = (ps.filter fun q => decide (q ≠ p)).map nk := by
      intro xs
      induction xs with
      | nil => intro ps h; cases ps with
        | nil => rfl
        | cons _ _ => simp at h
      | cons x xs ih =>
        intro ps h
        cases ps with
        | nil => simp at h
        | cons q ps =>
          simp only [List.map_cons, List.cons.injEq] at h
          have i := ih ps h.2
          unfold withoutH at i ⊢
          rw [List.filter_cons, List.filter_cons]
          by_cases c : q = p
          · have c1 : ¬ (decide (x.1 ≠ nk p)) = true := by simp [h.1, c]
            have c2 : ¬ (decide (q ≠ p)) = true := by simp [c]
            rw [if_neg c1, if_neg c2]
            exact i
          · have c1 : (decide (x.1 ≠ nk p)) = true := by
              rw [h.1]
              exact decide_eq_true fun z => c (nk_inj z)
            have c2 : (decide (q ≠ p)) = true := decide_eq_true c
            rw [if_pos c1, if_pos c2, List.map_cons, List.map_cons, i, h.1]
    obtain ⟨I', hk'⟩ := kept_put (t' := s2.toks + (nestedKind X.prog X.w).draws (nk p)) (b := b) I2 hk h1 dd' hs (qs := ps.filter fun q => decide (q ≠ p)) (hmap xs ps h2) (hnd.filter _) (fun x hx => h3 x (List.mem_filter.mp hx).1) (fun x hx => hv x (List.mem_filter.mp hx).1)
    refine ⟨.bl true, _, I', ?_, q _ hk'⟩
    unfold atKey at hpv
    obtain ⟨y, hy1, hy2⟩ := Option.map_eq_some_iff.mp hpv
    have := hv y (List.mem_of_find?_eq_some hy1)
    rw [← hy2]
    exact this
end
end PF

-- MA
set_option linter.all false
namespace LT
/-! ### walks: the pairs that wait -/
def firstO : List Pr → Option Pr
  | [] => none
  | p :: r => match firstO r with
    | none => some p
    | some q => if ca q p = true then some q else some p
theorem firstO_spec : ∀ ps : List Pr, (∀ p, firstO ps = some p → p ∈ ps ∧ ∀ e ∈ ps, ca e p = false) ∧ (firstO ps = none → ps = [])
  | [] => ⟨fun p h => (nomatch h), fun _ => rfl⟩
  | p :: r => by
    obtain ⟨i1, i2⟩ := firstO_spec r
    have e0 : firstO (p :: r) = match firstO r with | none => some p | some q => if ca q p = true then some q else some p := rfl
    cases h : firstO r with
    | none =>
      rw [h] at e0
      have := i2 h
      subst this
      refine ⟨fun x hx => ?_, fun hx => ?_⟩
      · rw [e0] at hx; cases hx
        exact ⟨List.mem_cons_self, fun e he => by
          have : e = p := by simpa using he
          subst this; exact ca_irr _⟩
      · rw [e0] at hx; cases hx
    | some q =>
      rw [h] at e0
      obtain ⟨j1, j2⟩ := i1 q h
      by_cases c : ca q p = true
      · have e1 : firstO (p :: r) = some q := by rw [e0]; exact if_pos c
        refine ⟨fun x hx => ?_, fun hx => ?_⟩
        · rw [e1] at hx; cases hx
          refine ⟨List.mem_cons_of_mem _ j1, fun e he => ?_⟩
          rcases List.mem_cons.mp he with rfl | he
          · exact ca_asymm c
          · exact j2 e he
        · rw [e1] at hx; cases hx
      · have e1 : firstO (p :: r) = some p := by rw [e0]; exact if_neg c
        have c' : ca q p = false := by simpa using c
        refine ⟨fun x hx => ?_, fun hx => ?_⟩
        · rw [e1] at hx; cases hx
          refine ⟨List.mem_cons_self, fun e he => ?_⟩
          rcases List.mem_cons.mp he with rfl | he
          · exact ca_irr _
          · exact ca_le_trans c' (j2 e he)
        · rw [e1] at hx; cases hx
theorem ca_anti {a b : Pr} (h1 : ca a b = false) (h2 : ca b a = false) : a = b := by
  obtain ⟨a1, a2, a3⟩ := a
  obtain ⟨b1, b2, b3⟩ := b
  unfold ca at h1 h2
  simp only at h1 h2
  by_cases c : a1 = b1
  · subst c
    rw [if_pos rfl] at h1 h2
    simp at h1 h2
    have : a2 = b2 := by omega
    subst this
    have : a3 = b3 := by
      have := h1.2 rfl
      have := h2.2 rfl
      omega
    subst this
    rfl
  · rw [if_neg c] at h1
    rw [if_neg (fun z => c z.symm)] at h2
    have h1 := of_decide_eq_false h1
    have h2 := of_decide_eq_false h2
    exfalso
    grind
theorem firstO_eq {ps : List Pr} {p : Pr} (hp : p ∈ ps) (hm : ∀ e ∈ ps, ca e p = false) : firstO ps = some p := by
  obtain ⟨i1, i2⟩ := firstO_spec ps
  cases h : firstO ps with
  | none => rw [i2 h] at hp; cases hp
  | some q =>
    obtain ⟨j1, j2⟩ := i1 q h
    rw [ca_anti (j2 p hp) (hm q j1)]
def All (f : Nat → Ln) (row : List Nat) (now : Rat) (ps : List Pr) : Prop := ∀ e, e ∈ ps ↔ PK (fun _ => False) f row now e
theorem first_least {f : Nat → Ln} {row : List Nat} {now : Rat} {ps : List Pr} (h : All f row now ps) : (firstO ps).map (·.1) = leastO (tills f row now) := by
  obtain ⟨i1, i2⟩ := firstO_spec ps
  obtain ⟨l1, l2⟩ := leastO_spec (tills f row now)
  have put : ∀ T, some T ∈ tills f row now → ∃ e ∈ ps, e.1 = T := by
    intro T hT
    obtain ⟨k, hk, e⟩ := mem_tills.mp hT
    exact ⟨(T, (row.getD k 0, row.getD (k + 1) 0)), (h _).mpr ⟨k, fun z => z, hk, rfl, e⟩, rfl⟩
  cases hf : firstO ps with
  | none =>
    have hn := i2 hf
    cases hl : leastO (tills f row now) with
    | none => rfl
    | some T =>
      obtain ⟨e, he, _⟩ := put T (l1 T hl).1
      rw [hn] at he; cases he
  | some p =>
    obtain ⟨j1, j2⟩ := i1 p hf
    obtain ⟨k, _, hk, e1, e2⟩ := (h p).mp j1
    have hin : some p.1 ∈ tills f row now := mem_tills.mpr ⟨k, hk, e2⟩
    cases hl : leastO (tills f row now) with
    | none => exact absurd hin (l2 hl p.1)
    | some T =>
      obtain ⟨m1, m2⟩ := l1 T hl
      have a1 := m2 p.1 hin
      obtain ⟨e, he, eT⟩ := put T m1
      have a2 := ca_time (j2 e he)
      rw [eT] at a2
      show some p.1 = some T
      rw [Rat.le_antisymm a2 a1]
theorem nodup_sub_len {α : Type} [DecidableEq α] : ∀ {l l' : List α}, l.Nodup → (∀ x ∈ l, x ∈ l') → l.length ≤ l'.length
  | [], _, _, _ => Nat.zero_le _
  | x :: r, l', hn, hs => by
    rw [List.nodup_cons] at hn
    have hx := hs x List.mem_cons_self
    have ih := nodup_sub_len (l := r) (l' := l'.erase x) hn.2 fun y hy => (List.mem_erase_of_ne (fun z => by subst z; exact hn.1 hy)).mpr (hs y (List.mem_cons_of_mem _ hy))
    have e := List.length_erase_of_mem hx
    have := List.length_pos_of_mem hx
    simp only [List.length_cons]
    omega
theorem pk_len {S : Nat → Prop} {f : Nat → Ln} {row : List Nat} {now : Rat} {ps : List Pr} (h : ∀ e ∈ ps, PK S f row now e) (hn : ps.Nodup) : ps.length ≤ row.length := by
  have := nodup_sub_len (l' := (List.range row.length).map fun k => (((till f (row.getD k 0) (row.getD (k + 1) 0) now).getD 0, (row.getD k 0, row.getD (k + 1) 0)) : Pr)) hn fun e he => by
    obtain ⟨k, _, hk, e1, e2⟩ := h e he
    refine List.mem_map.mpr ⟨k, List.mem_range.mpr (by omega), ?_⟩
    rw [e2]
    exact Prod.ext rfl e1.symm
  simpa using this
theorem pk_congr {S S' : Nat → Prop} {f : Nat → Ln} {row : List Nat} {now : Rat} (h : ∀ k, S k ↔ S' k) (e : Pr) : PK S f row now e ↔ PK S' f row now e :=
  ⟨fun ⟨k, a, b⟩ => ⟨k, fun z => a ((h k).mpr z), b⟩, fun ⟨k, a, b⟩ => ⟨k, fun z => a ((h k).mp z), b⟩⟩
/-- the pair at a place -/
def prO (f : Nat → Ln) (row : List Nat) (now : Rat) (at_ : Int) : Option Pr :=
  if 0 ≤ at_ ∧ at_ + 1 < (row.length : Int) then (till f (row.getD at_.toNat 0) (row.getD (at_.toNat + 1) 0) now).map fun T => (T, (row.getD at_.toNat 0, row.getD (at_.toNat + 1) 0)) else none
def keepP (o : Option Pr) (ps : List Pr) : List Pr := match o with | none => ps | some e => ps ++ [e]
def dropP (o : Option Pr) (ps : List Pr) : List Pr := match o with | none => ps | some e => ps.filter fun q => decide (q ≠ e)
section
variable {f : Nat → Ln} {row : List Nat} {now : Rat} {at_ : Int} {e : Pr} {S : Nat → Prop} {ps : List Pr}
theorem prO_some (h : prO f row now at_ = some e) : ∃ k : Nat, at_ = (k : Int) ∧ k + 1 < row.length ∧ e.2 = (row.getD k 0, row.getD (k + 1) 0) ∧ till f (row.getD k 0) (row.getD (k + 1) 0) now = some e.1 := by
  unfold prO at h
  split at h
  · rename_i c
    obtain ⟨k, rfl⟩ := Int.eq_ofNat_of_zero_le c.1
    obtain ⟨T, h1, rfl⟩ := Option.map_eq_some_iff.mp h
    exact ⟨k, rfl, by omega, rfl, h1⟩
  · cases h
theorem prO_of {k : Nat} (hk : k + 1 < row.length) {T : Rat} (h : till f (row.getD k 0) (row.getD (k + 1) 0) now = some T) : prO f row now (k : Int) = some (T, (row.getD k 0, row.getD (k + 1) 0)) := by
  unfold prO
  rw [if_pos ⟨by omega, by omega⟩, Int.toNat_natCast, h]
  rfl
theorem drop_pk (hn : row.Nodup) (hS : ∀ k : Nat, (k : Int) = at_ → ¬ S k) (h : ∀ e, e ∈ ps ↔ PK S f row now e) :
    (∀ e, prO f row now at_ = some e → e ∈ ps) ∧ ∀ e, e ∈ dropP (prO f row now at_) ps ↔ PK (fun k => S k ∨ (k : Int) = at_) f row now e := by
  refine ⟨fun e he => ?_, fun e => ?_⟩
  · obtain ⟨k, h1, h2, h3, h4⟩ := prO_some he
    exact (h e).mpr ⟨k, hS k h1.symm, h2, h3, h4⟩
  · cases hp : prO f row now at_ with
    | none =>
      show e ∈ ps ↔ _
      rw [h]
      constructor
      · rintro ⟨k, a, b, c, d⟩
        refine ⟨k, ?_, b, c, d⟩
        rintro (z | z)
        · exact a z
        · have := prO_of b d
          rw [z, hp] at this
          cases this
      · rintro ⟨k, a, b, c, d⟩
        exact ⟨k, fun z => a (.inl z), b, c, d⟩
    | some e0 =>
      obtain ⟨k0, g1, g2, g3, g4⟩ := prO_some hp
      show e ∈ ps.filter _ ↔ _
      rw [List.mem_filter, h]
      constructor
      · rintro ⟨⟨k, a, b, c, d⟩, ne⟩
        have ne := of_decide_eq_true ne
        refine ⟨k, ?_, b, c, d⟩
        rintro (z | z)
        · exact a z
        · have : k = k0 := by omega
          subst this
          rw [g4] at d
          exact ne (Prod.ext (Option.some.inj d).symm (c.trans g3.symm))
      · rintro ⟨k, a, b, c, d⟩
        refine ⟨⟨k, fun z => a (.inl z), b, c, d⟩, decide_eq_true ?_⟩
        rintro rfl
        rw [g3] at c
        have c1 := congrArg Prod.fst c
        simp only at c1
        have : k0 ≠ k := fun z => a (.inr (by omega))
        exact nodup_ne hn (by omega) (by omega) this c1
theorem keep_pk (hn : row.Nodup) (hS : ∀ k : Nat, (k : Int) = at_ → ¬ S k) (h : ∀ e, e ∈ ps ↔ PK (fun k => S k ∨ (k : Int) = at_) f row now e) :
    (∀ e, prO f row now at_ = some e → e ∉ ps) ∧ ∀ e, e ∈ keepP (prO f row now at_) ps ↔ PK S f row now e := by
  refine ⟨fun e he hm => ?_, fun e => ?_⟩
  · obtain ⟨k0, g1, g2, g3, g4⟩ := prO_some he
    obtain ⟨k, a, b, c, d⟩ := (h e).mp hm
    rw [g3] at c
    have c1 := congrArg Prod.fst c
    simp only at c1
    have : k0 ≠ k := fun z => a (.inr (by omega))
    exact nodup_ne hn (by omega) (by omega) this c1
  · cases hp : prO f row now at_ with
    | none =>
      show e ∈ ps ↔ _
      rw [h]
      constructor
      · rintro ⟨k, a, b, c, d⟩
        exact ⟨k, fun z => a (.inl z), b, c, d⟩
      · rintro ⟨k, a, b, c, d⟩
        refine ⟨k, ?_, b, c, d⟩
        rintro (z | z)
        · exact a z
        · have := prO_of b d
          rw [z, hp] at this
          cases this
    | some e0 =>
      obtain ⟨k0, g1, g2, g3, g4⟩ := prO_some hp
      show e ∈ ps ++ [e0] ↔ _
      rw [List.mem_append, h]
      constructor
      · rintro (⟨k, a, b, c, d⟩ | z)
        · exact ⟨k, fun z => a (.inl z), b, c, d⟩
        · have : e = e0 := by simpa using z
          subst this
          exact ⟨k0, hS k0 g1.symm, g2, g3, g4⟩
      · rintro ⟨k, a, b, c, d⟩
        by_cases z : k = k0
        · subst z
          right
          rw [g4] at d
          have : e = e0 := Prod.ext (Option.some.inj d).symm (c.trans g3.symm)
          simp [this]
        · left
          refine ⟨k, ?_, b, c, d⟩
          rintro (y | y)
          · exact a y
          · omega
theorem keepP_nodup {o : Option Pr} (h : ∀ e, o = some e → e ∉ ps) (hn : ps.Nodup) : (keepP o ps).Nodup := by
  cases o with
  | none => exact hn
  | some e =>
    show (ps ++ [e]).Nodup
    rw [List.nodup_append]
    refine ⟨hn, by simp, fun a ha c hc => ?_⟩
    have : c = e := by simpa using hc
    subst this
    rintro rfl
    exact h _ rfl ha
end
def Dn (a i k : Nat) : Prop := (k + 1 = a ∧ 1 ≤ i) ∨ (k = a ∧ 2 ≤ i) ∨ (k = a + 1 ∧ 3 ≤ i)
def Kn (a i k : Nat) : Prop := (k + 1 = a ∧ i < 1) ∨ (k = a ∧ i < 2) ∨ (k = a + 1 ∧ i < 3)
theorem dn_succ {a i k : Nat} (hi : i < 3) : Dn a (i + 1) k ↔ (Dn a i k ∨ (k : Int) = (a : Int) - 1 + i) := by unfold Dn; omega
theorem dn_not {a i k : Nat} (h : (k : Int) = (a : Int) - 1 + i) : ¬ Dn a i k := by unfold Dn; omega
theorem dn_0 {a k : Nat} : Dn a 0 k ↔ False := ⟨fun h => by unfold Dn at h; omega, False.elim⟩
theorem dn_3 {a k : Nat} : Dn a 3 k ↔ near a k := by unfold Dn near; omega
theorem kn_succ {a i k : Nat} (hi : i < 3) : Kn a i k ↔ (Kn a (i + 1) k ∨ (k : Int) = (a : Int) - 1 + i) := by unfold Kn; omega
theorem kn_not {a i k : Nat} (h : (k : Int) = (a : Int) - 1 + i) : ¬ Kn a (i + 1) k := by unfold Kn; omega
theorem kn_0 {a k : Nat} : Kn a 0 k ↔ near a k := by unfold Kn near; omega
theorem kn_3 {a k : Nat} : Kn a 3 k ↔ False := ⟨fun h => by unfold Kn at h; omega, False.elim⟩
/-- fuel enough -/
theorem goF_fuel {n : Nat} {f : Nat → Ln} {high : Rat} : ∀ (k m : Nat) (row : List Nat) (now : Rat), WI n f row now → invc f row < k → invc f row < m → goF f high k row now = goF f high m row now
  | 0, m, row, now, _, h, _ => absurd h (Nat.not_lt_zero _)
  | k + 1, 0, row, now, _, _, h => absurd h (Nat.not_lt_zero _)
  | k + 1, m + 1, row, now, w, h1, h2 => by
    unfold goF
    cases hl : leastO (tills f row now) with
    | none => rfl
    | some T =>
      simp only
      split
      · rfl
      · obtain ⟨w', hd⟩ := step_wi w hl
        rw [goF_fuel k m _ T w' (by omega) (by omega)]
end LT

-- P16
set_option linter.all false
set_option maxRecDepth 100000
set_option maxHeartbeats 2000000
namespace PF
open PySem PySem.Spec PyProof.Rows L2 LT
/-! ### classes: methods that keep a promise -/
/-- a method, where it stands -/
def Dm (K : PySem.W.Frag) (C : Addr) (x q : Str) (st : Stmt) (ps : List Str) : Prop := ∃ f fd, Fun K x q st f fd ∧ Meth K C x f ∧ Binds K fd ps []
def Di (K : PySem.W.Frag) (mg : Str → Option Value) (C : Addr) (c q : Str) (st : Stmt) (ps : List Str) : Prop := ∃ f fd, Fun K "__init__" q st f fd ∧ Mk K C f ∧ mg c = some (.ref C) ∧ Binds K fd ps []
def CalM (P : Program) (w : World) (K : PySem.W.Frag) (mg : Str → Option Value) (base : Heap) (k : Nat) (C : Addr) (x : Str) (ps : List Str) (sp : Sp) : Prop := ∃ f fd, Meth K C x f ∧ FnOk P w K mg base CX0 k f fd ps sp ∧ Binds K fd ps []
def CalN (P : Program) (w : World) (K : PySem.W.Frag) (mg : Str → Option Value) (base : Heap) (k : Nat) (C : Addr) (c : Str) (ps : List Str) (sp : Sp) : Prop := ∃ f fd, Mk K C f ∧ mg c = some (.ref C) ∧ FnOk P w K mg base CX0 k f fd ps sp ∧ Binds K fd ps []
section
variable {X : Cx} {k : Nat} {C : Addr} {m : Str} {ps : List Str} {sp : Sp} {o e : Expr} {es : List Expr} {apos pos p : Pos} {ta : TE} {t : TA}
theorem pe_mcal {pl : Sem Bool} (c : Cls X.K C) (M : CalM X.prog X.w X.K X.mg X.base k C m ps sp) (hr : Room k X.A) (he : PE X o ta) (ha : PA X (e :: es) t)
    (hst : starEach (e :: es) X.env = (false, eval e X.env) :: starEach es X.env := by rfl) (hpl : (backTo pos (starEach es X.env)).any (·.1) = false := by rfl)
    (ht : eval (.Call (.Attribute o m apos) (e :: es) [] pos) X.env = (do
      let ov ← eval o X.env
      standAt apos.atName
      let (f, first) ← holding [ov] (getMethod ov m pl)
      callWith pos f first (backTo pos (starEach (e :: es) X.env)) (backToKw pos (keywordEach [] X.env))) := by rfl) :
    PE X (.Call (.Attribute o m apos) (e :: es) [] pos) (tMeth C m sp [] E0 ta t) := by
  obtain ⟨f, fd, hm, F, b⟩ := M
  exact pe_meth (pl := pl) he c hm F hr b .nil pass0 ha hst hpl ht
theorem pe_mcal0 {pl : Sem Bool} (c : Cls X.K C) (M : CalM X.prog X.w X.K X.mg X.base k C m ps sp) (hr : Room k X.A) (he : PE X o ta)
    (ht : eval (.Call (.Attribute o m apos) [] [] pos) X.env = (do
      let ov ← eval o X.env
      standAt apos.atName
      let (f, first) ← holding [ov] (getMethod ov m pl)
      callWith pos f first (backTo pos (starEach [] X.env)) (backToKw pos (keywordEach [] X.env))) := by rfl) :
    PE X (.Call (.Attribute o m apos) [] [] pos) (tMeth C m sp [] E0 ta tNil) := by
  obtain ⟨f, fd, hm, F, b⟩ := M
  exact pe_meth0 (pl := pl) he c hm F hr b .nil pass0 ht
theorem pe_mk {x : Str} (M : CalN X.prog X.w X.K X.mg X.base k C x ps sp) (hr : Room (k + 1) X.A) (hg : Gl X x) (ha : PA X (e :: es) t) (hdb : (x == ("__debug__" : Str)) = false := by decide)
    (he : starEach (e :: es) X.env = (false, eval e X.env) :: starEach es X.env := by rfl) (hpl : (backTo pos (starEach es X.env)).any (·.1) = false := by rfl) : PE X (.Call (.Name x p) (e :: es) [] pos) (tMake C sp [] E0 t) := by
  obtain ⟨f, fd, M, hm, F, b⟩ := M
  exact pe_make M F hr hg hm b .nil pass0 ha hdb he hpl
theorem pe_mk0 {x : Str} (M : CalN X.prog X.w X.K X.mg X.base k C x ps sp) (hr : Room (k + 1) X.A) (hg : Gl X x) (hdb : (x == ("__debug__" : Str)) = false := by decide) : PE X (.Call (.Name x p) [] [] pos) (tMake C sp [] E0 tNil) := by
  obtain ⟨f, fd, M, hm, F, b⟩ := M
  exact pe_make0 M F hr hg hm b .nil pass0 hdb
end
section
variable {P : Program} {w : World} {K : PySem.W.Frag} {mg : Str → Option Value} {base : Heap}
theorem CalM.of {C : Addr} {x q : Str} {st : Stmt} {ps N : List Str} {k : Nat} {sp : Sp} (D : Dm K C x q st ps) (S : FnScope N ps (defScope st)) (len : ∀ vs H Q E, sp vs H Q E → vs.length = ps.length)
    (hbody : ∀ (f : Addr) (cdv : Value) (A : Around) (outer : List PySem.Env) (s : Shared) (H : Hp) (vs : List V) (Q : VK) (E : XK), Room k (A.deeper (envOfC q (defScope st) s.heap.objs.size f cdv)) → sp vs H Q E →
      ∃ t, PSs (cxOf CX0 P w K mg base N q (defScope st) f cdv A outer s H E).nox (defBody st) t ∧ t { nx := fun _ H' => Q .non H', rt := Q } (L2.start N vs) H) : CalM P w K mg base (k + 1) C x ps sp := by
  obtain ⟨f, fd, F, m, b⟩ := D
  exact ⟨f, fd, m, F.ok S len (hbody f), b⟩
theorem CalN.of {C : Addr} {c q : Str} {st : Stmt} {ps N : List Str} {k : Nat} {sp : Sp} (D : Di K mg C c q st ps) (S : FnScope N ps (defScope st)) (len : ∀ vs H Q E, sp vs H Q E → vs.length = ps.length)
    (hbody : ∀ (f : Addr) (cdv : Value) (A : Around) (outer : List PySem.Env) (s : Shared) (H : Hp) (vs : List V) (Q : VK) (E : XK), Room k (A.deeper (envOfC q (defScope st) s.heap.objs.size f cdv)) → sp vs H Q E →
      ∃ t, PSs (cxOf CX0 P w K mg base N q (defScope st) f cdv A outer s H E).nox (defBody st) t ∧ t { nx := fun _ H' => Q .non H', rt := Q } (L2.start N vs) H) : CalN P w K mg base (k + 1) C c ps sp := by
  obtain ⟨f, fd, F, m, g, b⟩ := D
  exact ⟨f, fd, m, g, F.ok S len (hbody f), b⟩
end
/-! ### what stays over a change of an object -/
def Ts (K : PySem.W.Frag) (H H' : Hp) : Prop := ∀ a xs, SqT K H a xs → SqT K H' a xs
section
variable {K : PySem.W.Frag} {B H H' H2 : Hp} {σ : L2.St} {G : List Sl}
theorem Ts.refl : Ts K H H := fun _ _ h => h
theorem Ts.same (e : Same H H') : Ts K H H' := fun _ _ h => sqt_ex e h
theorem Ts.trans (a : Ts K H H') (b : Ts K H' H2) : Ts K H H2 := fun x xs h => b x xs (a x xs h)
theorem Ts.ins {C dx : Addr} {fs : List (Str × V)} {a : Addr} {o : HO} (h : H a = some (.ins C dx fs)) : Ts K H (upd H a o) := fun b xs q => by
  have ne : ∀ {u : HO}, H b = some u → (∀ C dx fs, u ≠ .ins C dx fs) → b ≠ a := fun e n z => by subst z; rw [h] at e; cases e; exact n _ _ _ rfl
  rcases q with (q | ⟨ob, q⟩) | q
  · exact .inl (.inl (by rw [upd_ne (ne q (fun _ _ _ z => nomatch z))]; exact q))
  · exact .inl (.inr ⟨ob, by rw [upd_ne (ne q (fun _ _ _ z => nomatch z))]; exact q⟩)
  · exact .inr q
theorem same_upd {a : Addr} {o : HO} (e : Same B H) (h : B a = none) : Same B (upd H a o) := fun b u hb => by
  rw [upd_ne (by rintro rfl; rw [h] at hb; cases hb)]
  exact e b u hb
def Sl.calm : Sl → Bool
  | .im d => noL d
  | .ow _ _ => false
  | _ => true
/-- the slots' data stand over a changed heap -/
theorem Env.move (I : Env K B H σ G) (n : G.all Sl.calm = true) (t : Ts K H H') : Env K H' H' σ G := by
  have nn : ∀ (i : Nat) s, G[i]? = some s → s.calm = true := fun i s h => List.all_eq_true.mp n s (List.mem_of_getElem? h)
  refine ⟨Same.refl H', I.len, fun i x s h1 h2 => ?_, fun i j a ds es h1 h2 => ?_⟩
  · have q := I.at_ i x s h1 h2
    have c := nn i s h2
    cases s with
    | no => trivial
    | vl v => exact q
    | im d => obtain ⟨v, e, g⟩ := q; exact ⟨v, e, dq_of c (dp_mono c t (g.dp I.sm))⟩
    | ow a ds => cases c
  · have c := nn i _ h1
    cases c
theorem Env.re (I : Env K B H σ G) (n : G.all Sl.calm = true) : Env K H H σ G := I.move n Ts.refl
variable {W C dx : Addr} {fs : List (Str × V)} {f : Str} {v : V} {d : PD} {i : Nat}
theorem ev_fld (hs : G[i]? = some (.vl (.ref W))) (hB : B W = some (.ins C dx fs)) (c : Cls K C) (n : NoAttr K C f) (hl : fs.lookup f = some v) (hd : Dq K B B v d) : Ev K B (tFld K (tVar i) f) G d := fun σ H I Q q => by
  obtain ⟨x, h1, h2⟩ := I.slot hs
  cases (show x = some (V.ref W) from h2)
  exact ⟨_, h1, W, C, dx, fs, v, rfl, I.sm _ _ hB, c, n, hl, q v H (Same.refl H) (hd.ex I.sm)⟩
theorem ep_fld (hs : G[i]? = some (.vl (.ref W))) (hB : B W = some (.ins C dx fs)) (c : Cls K C) (n : NoAttr K C f) (hl : fs.lookup f = some v) (hd : Dp K B v d) : EvP K B (tFld K (tVar i) f) G d := (ev_fld hs hB c n hl (.base hd)).p
end
/-! ### class Waiting -/
def wf (tv : V) (d : Addr) : List (Str × V) := [("tree", tv), ("kept", .ref d)]
theorem tk_ : (("kept" : Str) == "tree") = false := by decide +kernel
theorem wf_tree {tv : V} {d : Addr} : (wf tv d).lookup ("tree" : Str) = some tv := by simp [wf, List.lookup]
theorem wf_kept {tv : V} {d : Addr} : (wf tv d).lookup ("kept" : Str) = some (.ref d) := by simp [wf, List.lookup, tk_]
theorem wf_no {tv : V} {d : Addr} {m : Str} (h1 : (m == ("tree" : Str)) = false) (h2 : (m == ("kept" : Str)) = false) : (wf tv d).lookup m = none := by simp [wf, List.lookup, h1, h2]
theorem wf_put {tv v : V} {d : Addr} : putF "tree" v (wf tv d) = wf v d := by
  show (if ("tree" : Str) = "tree" then (("tree" : Str), v) :: [(("kept" : Str), V.ref d)] else _) = _
  rw [if_pos rfl]; rfl
theorem tk_ne : ¬ (("tree" : Str) = "kept") := by decide +kernel
theorem wf_new {tv : V} {d : Addr} : putF "kept" (.ref d) (putF "tree" tv []) = wf tv d := by
  show (if ("tree" : Str) = "kept" then [(("tree" : Str), V.ref d)] else (("tree" : Str), tv) :: putF "kept" (V.ref d) []) = _
  rw [if_neg tk_ne]; rfl
structure WCls (K : PySem.W.Frag) (C : Addr) : Prop where
  cl : Cls K C
  nT : NoAttr K C "tree"
  nK : NoAttr K C "kept"
/-- behind B a Waiting stands at q, the pairs ps in it -/
def WtAt (P : Program) (w : World) (K : PySem.W.Frag) (C : Addr) (B H : Hp) (q : Addr) (ps : List Pr) : Prop :=
  B q = none ∧ ∃ dx d tv t, H q = some (.ins C dx (wf tv d)) ∧ Dp K H tv (shD t) ∧ KAt P w K H d ps ∧ B d = none ∧ t.HO ∧ t.els.Perm ps ∧ ∀ e ∈ ps, Sz 600 e.1
section
variable {P : Program} {w : World} {K : PySem.W.Frag} {mg : Str → Option Value} {base : Heap} {B H H' : Hp} {C q : Addr} {ps : List Pr}
theorem WtAt.ex (e : Same H H') (h : WtAt P w K C B H q ps) : WtAt P w K C B H' q ps := by
  obtain ⟨h0, dx, d, tv, t, h1, h2, h3, h4, h5⟩ := h
  obtain ⟨φ, hφ⟩ := h3.isExt
  exact ⟨h0, dx, d, tv, t, e _ _ h1, dp_ex e h2, h3.mono (by rw [hφ, e _ _ hφ]) (Ts.same e), h4, h5⟩
theorem WtAt.szs {t : Sh} (h : t.els.Perm ps) (hs : ∀ e ∈ ps, Sz 600 e.1) : SzS t := fun e he => hs e (h.mem_iff.mp he)
theorem WtAt.len {t : Sh} (h : t.els.Perm ps) : t.size = ps.length := by rw [← Sh.els_len, h.length_eq]
def spWInit (P : Program) (w : World) (K : PySem.W.Frag) (C : Addr) : Sp := fun vs H Q _ => ∃ (B : Hp) (q dx : Addr), vs = [.ref q] ∧ Same B H ∧ B q = none ∧ H q = some (.ins C dx []) ∧ ∀ H', WtAt P w K C B H' q [] → Same B H' → Ts K H H' → Q .non H'
def spPut (P : Program) (w : World) (K : PySem.W.Frag) (C : Addr) : Sp := fun vs H Q _ => ∃ (B : Hp) (q : Addr) (tv kv : V) (p : Pr) (ps : List Pr), vs = [.ref q, tv, kv] ∧ Same B H ∧ WtAt P w K C B H q ps ∧ Dp K H tv (nm p.1) ∧ Dp K H kv (keyD p.2) ∧ Sz 600 p.1 ∧ p ∉ ps ∧ ps.length ≤ 7 ∧
  ∀ H', WtAt P w K C B H' q (ps ++ [p]) → Same B H' → Ts K H H' → Q .non H'
def spTake (P : Program) (w : World) (K : PySem.W.Frag) (C : Addr) : Sp := fun vs H Q _ => ∃ (B : Hp) (q : Addr) (tv kv : V) (p : Pr) (ps : List Pr), vs = [.ref q, tv, kv] ∧ Same B H ∧ WtAt P w K C B H q ps ∧ Dp K H tv (nm p.1) ∧ Dp K H kv (keyD p.2) ∧ Sz 600 p.1 ∧ p ∈ ps ∧ ps.length ≤ 8 ∧
  ∀ H', WtAt P w K C B H' q (ps.filter fun e => decide (e ≠ p)) → Same B H' → Ts K H H' → Q .non H'
def optPr : Option Pr → PD
  | none => .none
  | some p => prW p
theorem optPr_noL (o : Option Pr) : noL (optPr o) = true := by cases o <;> rfl
def spFirst (P : Program) (w : World) (K : PySem.W.Frag) (C : Addr) : Sp := fun vs H Q _ => ∃ (B : Hp) (q : Addr) (ps : List Pr), vs = [.ref q] ∧ WtAt P w K C B H q ps ∧ ∀ v, Dp K H v (optPr (firstO ps)) → Q v H
theorem env_self {vs : List V} {ds : List PD} {n : Nat} (h : DpAll K H vs ds) : Env K H H (some (.ref q) :: (vs.map some ++ List.replicate n none)) (.vl (.ref q) :: (ds.map .im ++ List.replicate n .no)) := by
  obtain ⟨l, k⟩ := dpa_iff.mp h
  refine ⟨Same.refl H, by simp [l], fun i x s h1 h2 => ?_, fun i j a es fs h1 h2 => ?_⟩
  · cases i with
    | zero => simp at h1 h2; subst h1 h2; rfl
    | succ i =>
      simp only [List.getElem?_cons_succ] at h1 h2
      by_cases c : i < vs.length
      · rw [List.getElem?_append_left (by simpa using c), List.getElem?_map] at h1
        rw [List.getElem?_append_left (by simp; omega), List.getElem?_map] at h2
        obtain ⟨v, e1, rfl⟩ := Option.map_eq_some_iff.mp h1
        obtain ⟨d, e2, rfl⟩ := Option.map_eq_some_iff.mp h2
        exact ⟨v, rfl, .base (k i v d e1 e2)⟩
      · rw [List.getElem?_append_right (by simp; omega)] at h2
        have := List.mem_of_getElem? h2
        have := (List.mem_replicate.mp this).2
        subst this
        trivial
  · cases i with
    | zero => simp at h1
    | succ i =>
      simp only [List.getElem?_cons_succ] at h1
      have := List.mem_of_getElem? h1
      rcases List.mem_append.mp this with z | z
      · obtain ⟨_, _, z⟩ := List.mem_map.mp z
        cases z
      · have := (List.mem_replicate.mp z).2
        cases this
abbrev s_Waiting_init : Stmt := inClass (topS 51) 0
theorem sc_Waiting_init : FnScope ["self"] ["self"] (defScope s_Waiting_init) := ⟨rfl, rfl, rfl, by decide +kernel, rfl, by decide +kernel, by decide +kernel⟩
theorem ok_Waiting_init (D : Di K mg C "Waiting" "Waiting.__init__" s_Waiting_init ["self"]) (T : WCls K C) : CalN P w K mg base 1 C "Waiting" ["self"] (spWInit P w K C) := by
  refine CalN.of D sc_Waiting_init (fun vs H Q E h => by obtain ⟨B, q, dx, rfl, _⟩ := h; rfl) (fun f cdv A outer s H vs Q E hr h => ?_)
  obtain ⟨B, q, dx, rfl, sm, hb, hq, k⟩ := h
  refine ⟨_, (pss_cons (ps_fld (pv 0) pe_non rfl)
      (pss_one (ps_fld (pv 0) pe_knew rfl))), ?_⟩
  refine ⟨_, rfl, q, C, dx, [], rfl, hq, T.cl, T.nT, (by decide), fun d φ hd hk => ?_⟩
  have nq : q ≠ d := fun z => by subst z; rw [upd_same] at hd; cases hd
  have hd0 : H d = none := by rw [upd_ne nq.symm] at hd; exact hd
  refine ⟨_, rfl, q, C, dx, _, rfl, (upd_ne nq).trans upd_same, T.cl, T.nK, (by show 1 < 1000; decide), ?_⟩
  rw [wf_new]
  have t1 : Ts K H (upd H q (.ins C dx (putF "tree" .non []))) := Ts.ins hq
  have t2 : Ts K (upd H q (.ins C dx (putF "tree" .non []))) (upd (upd H q (.ins C dx (putF "tree" .non []))) d (.ext φ)) := Ts.same (same_new hd)
  have h3 : (upd (upd H q (.ins C dx (putF "tree" .non []))) d (.ext φ)) q = some (.ins C dx (putF "tree" .non [])) := (upd_ne nq).trans upd_same
  have t3 := Ts.ins (K := K) (o := .ins C dx (wf .non d)) h3
  have bd : B d = none := same_there sm d hd0
  refine k _ ⟨hb, dx, d, .non, .nil, upd_same, .non, hk.mono (upd_ne nq.symm) t3, bd, trivial, .refl _, fun e he => nomatch he⟩ (same_upd (same_upd (same_upd sm hb) bd) hb) ((t1.trans t2).trans t3)
abbrev s_Waiting_put : Stmt := inClass (topS 51) 1
theorem sc_Waiting_put : FnScope ["self", "time", "key"] ["self", "time", "key"] (defScope s_Waiting_put) := ⟨rfl, rfl, rfl, by decide +kernel, rfl, by decide +kernel, by decide +kernel⟩
theorem ok_Waiting_put (D : Dm K C "put" "Waiting.put" s_Waiting_put ["self", "time", "key"]) (T : WCls K C) (C_merged : Cal P w K mg base 19 "merged" ["one", "other"] (SpI K (R_merged 8))) : CalM P w K mg base 20 C "put" ["self", "time", "key"] (spPut P w K C) := by
  refine CalM.of D sc_Waiting_put (fun vs H Q E h => by obtain ⟨B, q, tv, kv, p, ps, rfl, _⟩ := h; rfl) (fun f cdv A outer s H vs Q E hr h => ?_)
  obtain ⟨B, q, tv, kv, p, ps, rfl, sm, ⟨hb, dx, d, tr, t, w1, w2, w3, bd, ho, pm, ss⟩, h1, h2, hz, hn, hl, k⟩ := h
  have hr : Room 19 _ := hr
  refine ⟨_, (pss_cons (ps_if (pt_cmpR (op_kin hr) (pe_tup (pa_cons (pv 1) (pa_cons (pv 2) pa_nil))) (pe_fld (pv 0) rfl) rfl) (pss_one ps_never) pss_nil)
      (pss_cons (ps_asg pe_bl (pg_sub (pe_fld (pv 0) rfl) (pe_tup (pa_cons (pv 1) (pa_cons (pv 2) pa_nil))) (set_kept hr)))
      (pss_one (ps_fld (pv 0) (pe_cal C_merged (hr.mono (by omega)) (by rfl) (pa_cons (pe_fld (pv 0) rfl) (pa_cons (pe_tup (pa_cons (pe_tup (pa_cons (pv 1) (pa_cons (pv 2) pa_nil))) (pa_cons pe_non (pa_cons pe_non pa_nil)))) pa_nil))) rfl)))), ?_⟩
  have I : Env K H H _ _ := env_self (q := q) (n := 0) (DpAll.cons h1 (.cons h2 .nil))
  have mk : ∀ {B' : Hp}, Ev K B' (tTup (tCons (tVar 1) (tCons (tVar 2) tNil))) [.vl (.ref q), .im (nm p.1), .im (keyD p.2)] (prW p) := ev_tup (ea_cons (ev_var rfl) (ea_cons (ev_var rfl) ea_nil))
  unfold tSeq tIfS tTest tOp
  refine mk _ H I _ fun v H1 e1 g1 => ?_
  refine ⟨_, rfl, q, C, dx, _, _, rfl, e1 _ _ w1, T.cl, T.nK, wf_kept, d, p, ps, rfl, g1.dp e1, ?_, _, rfl, ?_⟩
  · obtain ⟨φ, hφ⟩ := w3.isExt
    exact w3.mono (by rw [hφ, e1 _ _ hφ]) (Ts.same e1)
  rw [decide_eq_false hn]
  refine ⟨_, rfl, q, C, dx, _, _, rfl, e1 _ _ w1, T.cl, T.nK, wf_kept, mk _ H1 (I.ex e1) _ fun v2 H2 e2 g2 => ?_⟩
  have e12 := e1.trans e2
  have w3' : KAt P w K H2 d ps := by
    obtain ⟨φ, hφ⟩ := w3.isExt
    exact w3.mono (by rw [hφ, e12 _ _ hφ]) (Ts.same e12)
  refine ⟨d, p, ps, rfl, rfl, g2.dp e12, w3', hn, Nat.le_trans hl (by decide), fun φ hk => ?_⟩
  obtain ⟨ψ, hψ⟩ := w3'.isExt
  have t3 : Ts K H2 (upd H2 d (.ext φ)) := ts_ext hψ
  have nq : q ≠ d := fun z => by subst z; rw [e12 _ _ w1] at hψ; cases hψ
  have tsum : Ts K H (upd H2 d (.ext φ)) := (Ts.same e12).trans t3
  have I3 := I.move rfl tsum
  have hq3 : (upd H2 d (.ext φ)) q = some (.ins C dx (wf tr d)) := (upd_ne nq).trans (e12 _ _ w1)
  have hlen := WtAt.len pm
  refine ev_call (B := upd H2 d (.ext φ)) (d := shD (LT.mg t (.node p .nil .nil))) (eap_cons (ep_fld (d := shD t) rfl hq3 T.cl T.nT wf_tree (dp_mono (shD_noL t) tsum w2)) (eap_cons (ev_tup (ea_cons mk (ea_cons ev_non (ea_cons ev_non ea_nil)))).p eap_nil)) ⟨t, .node p .nil .nil, by simp only [Sh.size]; omega, by decide, WtAt.szs pm ss, fun e he => ?_, rfl, rfl⟩ (shD_noL _) _ _ I3 _ fun v3 H4 e4 g4 => ?_
  rotate_left
  · have : e = p := by simpa [Sh.els] using he
    subst this; exact hz
  · refine ⟨_, rfl, q, C, dx, _, rfl, e4 _ _ hq3, T.cl, T.nT, (by show 2 < 1000; decide), ?_⟩
    rw [wf_put]
    have t5 := Ts.ins (K := K) (o := .ins C dx (wf v3 d)) (e4 _ _ hq3)
    have hd4 : H4 d = some (.ext φ) := e4 _ _ upd_same
    refine k _ ⟨hb, dx, d, v3, LT.mg t (.node p .nil .nil), upd_same, dp_mono (shD_noL _) t5 (g4.dp e4), hk.mono (by rw [upd_ne nq.symm, hd4, upd_same]) ((Ts.same e4).trans t5), bd, mg_HO _ _ ho ?_, (mg_els _ _).trans ?_, fun e he => ?_⟩ (same_upd ((same_upd (sm.trans e12) bd).trans e4) hb) ((tsum.trans (Ts.same e4)).trans t5)
    · exact ⟨fun e he => (nomatch he), trivial, trivial⟩
    · exact List.Perm.append_right _ pm
    · rcases List.mem_append.mp he with z | z
      · exact ss e z
      · have : e = p := by simpa using z
        subst this; exact hz
abbrev s_Waiting_take : Stmt := inClass (topS 51) 2
theorem sc_Waiting_take : FnScope ["self", "time", "key"] ["self", "time", "key"] (defScope s_Waiting_take) := ⟨rfl, rfl, rfl, by decide +kernel, rfl, by decide +kernel, by decide +kernel⟩
theorem ok_Waiting_take (D : Dm K C "take" "Waiting.take" s_Waiting_take ["self", "time", "key"]) (T : WCls K C) (C_without : Cal P w K mg base 28 "without" ["shape", "pair"] (SpI K (R_without 8))) : CalM P w K mg base 29 C "take" ["self", "time", "key"] (spTake P w K C) := by
  refine CalM.of D sc_Waiting_take (fun vs H Q E h => by obtain ⟨B, q, tv, kv, p, ps, rfl, _⟩ := h; rfl) (fun f cdv A outer s H vs Q E hr h => ?_)
  obtain ⟨B, q, tv, kv, p, ps, rfl, sm, ⟨hb, dx, d, tr, t, w1, w2, w3, bd, ho, pm, ss⟩, h1, h2, hz, hn, hl, k⟩ := h
  have hr : Room 28 _ := hr
  refine ⟨_, (pss_cons (ps_if (pt_cmpR (op_knotin hr) (pe_tup (pa_cons (pv 1) (pa_cons (pv 2) pa_nil))) (pe_fld (pv 0) rfl) rfl) (pss_one ps_never) pss_nil)
      (pss_cons (ps_expr (pe_kpop hr (pe_fld (pv 0) rfl) (pa_cons (pe_tup (pa_cons (pv 1) (pa_cons (pv 2) pa_nil))) pa_nil)))
      (pss_one (ps_fld (pv 0) (pe_cal C_without (hr.mono (by omega)) (by rfl) (pa_cons (pe_fld (pv 0) rfl) (pa_cons (pe_tup (pa_cons (pv 1) (pa_cons (pv 2) pa_nil))) pa_nil))) rfl)))), ?_⟩
  have I : Env K H H _ _ := env_self (q := q) (n := 0) (DpAll.cons h1 (.cons h2 .nil))
  have mk : ∀ {B' : Hp}, Ev K B' (tTup (tCons (tVar 1) (tCons (tVar 2) tNil))) [.vl (.ref q), .im (nm p.1), .im (keyD p.2)] (prW p) := ev_tup (ea_cons (ev_var rfl) (ea_cons (ev_var rfl) ea_nil))
  unfold tSeq tIfS tTest tOp
  refine mk _ H I _ fun v H1 e1 g1 => ?_
  refine ⟨_, rfl, q, C, dx, _, _, rfl, e1 _ _ w1, T.cl, T.nK, wf_kept, d, p, ps, rfl, g1.dp e1, ?_, _, rfl, ?_⟩
  · obtain ⟨φ, hφ⟩ := w3.isExt
    exact w3.mono (by rw [hφ, e1 _ _ hφ]) (Ts.same e1)
  rw [decide_eq_true hn]
  have w3' : ∀ {H2 : Hp}, Same H H2 → KAt P w K H2 d ps := fun e => by
    obtain ⟨φ, hφ⟩ := w3.isExt
    exact w3.mono (by rw [hφ, e _ _ hφ]) (Ts.same e)
  refine ⟨_, rfl, q, C, dx, _, _, rfl, e1 _ _ w1, T.cl, T.nK, wf_kept, ⟨d, ps, rfl, w3' e1⟩, mk _ H1 (I.ex e1) _ fun v2 H2 e2 g2 => ?_⟩
  have e12 := e1.trans e2
  refine ⟨d, p, ps, v2, rfl, rfl, g2.dp e12, w3' e12, hn, Nat.le_trans hl (by decide), fun φ hk => ?_⟩
  obtain ⟨ψ, hψ⟩ := (w3' e12).isExt
  have t3 : Ts K H2 (upd H2 d (.ext φ)) := ts_ext hψ
  have nq : q ≠ d := fun z => by subst z; rw [e12 _ _ w1] at hψ; cases hψ
  have tsum : Ts K H (upd H2 d (.ext φ)) := (Ts.same e12).trans t3
  have I3 := I.move rfl tsum
  have hq3 : (upd H2 d (.ext φ)) q = some (.ins C dx (wf tr d)) := (upd_ne nq).trans (e12 _ _ w1)
  have hlen := WtAt.len pm
  have hnd : t.els.Nodup := by
    obtain ⟨_, _, _, _, _, z, _⟩ := w3
    exact pm.nodup_iff.mpr z
  obtain ⟨o1, o2⟩ := wo_ok t p ho hnd
  refine ev_call (B := upd H2 d (.ext φ)) (d := shD (wo t p)) (eap_cons (ep_fld (d := shD t) rfl hq3 T.cl T.nT wf_tree (dp_mono (shD_noL t) tsum w2)) (eap_cons mk.p eap_nil)) ⟨t, p, by omega, by decide, WtAt.szs pm ss, hz, rfl, rfl⟩ (shD_noL _) _ _ I3 _ fun v3 H4 e4 g4 => ?_
  refine ⟨_, rfl, q, C, dx, _, rfl, e4 _ _ hq3, T.cl, T.nT, (by show 2 < 1000; decide), ?_⟩
  rw [wf_put]
  have t5 := Ts.ins (K := K) (o := .ins C dx (wf v3 d)) (e4 _ _ hq3)
  have hd4 : H4 d = some (.ext φ) := e4 _ _ upd_same
  exact k _ ⟨hb, dx, d, v3, wo t p, upd_same, dp_mono (shD_noL _) t5 (g4.dp e4), hk.mono (by rw [upd_ne nq.symm, hd4, upd_same]) ((Ts.same e4).trans t5), bd, o2, o1.trans (pm.filter _), fun e he => ss e (List.mem_filter.mp he).1⟩ (same_upd ((same_upd (sm.trans e12) bd).trans e4) hb) ((tsum.trans (Ts.same e4)).trans t5)
abbrev s_Waiting_first : Stmt := inClass (topS 51) 3
theorem sc_Waiting_first : FnScope ["self"] ["self"] (defScope s_Waiting_first) := ⟨rfl, rfl, rfl, by decide +kernel, rfl, by decide +kernel, by decide +kernel⟩
theorem ok_Waiting_first (D : Dm K C "first" "Waiting.first" s_Waiting_first ["self"]) (T : WCls K C) : CalM P w K mg base 1 C "first" ["self"] (spFirst P w K C) := by
  refine CalM.of D sc_Waiting_first (fun vs H Q E h => by obtain ⟨B, q, ps, rfl, _⟩ := h; rfl) (fun f cdv A outer s H vs Q E hr h => ?_)
  obtain ⟨B, q, ps, rfl, ⟨hb, dx, d, tr, t, w1, w2, w3, bd, ho, pm, ss⟩, k⟩ := h
  refine ⟨_, (pss_cons (ps_if (pt_cmpR op_isN (pe_fld (pv 0) rfl) pe_non (nomark _)) (pss_one (ps_ret pe_non)) pss_nil)
      (pss_one (ps_ret (pe_ix (ix_tupK (K := K) rfl) (pe_fld (pv 0) rfl) pe_int (fun _ _ => rfl))))), ?_⟩
  have I : Env K H H _ _ := env_self (q := q) (n := 0) (DpAll.nil)
  refine ⟨_, rfl, q, C, dx, _, _, rfl, w1, T.cl, T.nT, wf_tree, rfl, _, rfl, ?_⟩
  cases t with
  | nil =>
    cases w2
    rw [decide_eq_true rfl]
    have : ps = [] := List.Perm.eq_nil (pm.symm)
    subst this
    exact k _ .non
  | node p l r =>
    have e : decide (tr = V.non) = false := dp_non w2
    rw [e]
    cases w2 with
    | tup hs hd =>
      cases hd with
      | cons g1 g2 =>
        refine ⟨_, rfl, q, C, dx, _, _, rfl, w1, T.cl, T.nT, wf_tree, _, _, 0, _, rfl, rfl, hs, atI_nat (j := 0) rfl, ?_⟩
        refine k _ ?_
        rw [firstO_eq (pm.mem_iff.mp List.mem_cons_self) fun e he => root_le ho e (pm.mem_iff.mpr he)]
        exact g1
end
end PF

-- P17
set_option linter.all false
set_option maxRecDepth 100000
set_option maxHeartbeats 2000000
namespace PF
open PySem PySem.Spec PyProof.Rows L2 LT
/-! ### xs[a:b] = ys -/
def sSlc (tv to tl th : TE) : TS := fun D σ H => tv σ H fun y H1 => to σ H1 fun x H2 => tl σ H2 fun l H3 => th σ H3 fun h H4 => ∃ (p b : Addr) (xs ys : List V) (i j : Int), x = .ref p ∧ y = .ref b ∧ l = .int i ∧ h = .int j ∧ H4 p = some (.lst xs) ∧ H4 b = some (.lst ys) ∧ p ≠ b ∧
  0 ≤ i ∧ i ≤ j ∧ j ≤ xs.length ∧ xs.length + ys.length ≤ sizeLine ∧ D.nx σ (upd H4 p (.lst (xs.take i.toNat ++ ys ++ xs.drop j.toNat)))
theorem ps_slc {X : Cx} {o lo hi value : Expr} {p2 pos pos' : Pos} {tv to tl th : TE} (hv : PE X value tv) (ho : PE X o to) (hl : PE X lo tl) (hh : PE X hi th) (hs : swapsWith value (some (.Subscript o (.Slice (some lo) (some hi) none p2) pos')) pos.line X.env = pure false := by rfl) :
    PS X (.Assign [.Subscript o (.Slice (some lo) (some hi) none p2) pos'] value pos) (sSlc tv to tl th) := by
  refine ⟨fun pins s σ H D I h => ?_⟩
  refine wpAny_Assign_Subscript (thn (hv.run pins s σ H _ I h) fun r s1 ⟨y, H1, I1, rv, q1⟩ => thn (ho.run pins s1 σ H1 _ I1 q1) fun u s2 ⟨x, H2, I2, rx, q2⟩ =>
    wpAny_Slice (thn (hl.run pins s2 σ H2 _ I2 q2) fun vl s3 ⟨l, H3, I3, pl, q3⟩ => thn (hh.run pins s3 σ H3 _ I3 q3) fun vu s4 ⟨h, H4, I4, pu, q4⟩ => ?_)) hs
  rw [evalPart_none]
  refine wpAny_pure ?_
  obtain ⟨p, b, xs, ys, i, j, rfl, rfl, rfl, rfl, hp, hb, ne, h0, hij, hj, hz, q⟩ := q4
  cases rx; cases rv
  have I5 : Inv X pins σ H4 { s4 with heap := s4.heap.push { cls := .type "slice", data := .fields #[vl, vu, .none] } } := I4.kept (t' := s4.toks) fun b ob q => Heap.get?_push_of_some _ q
  exact set_slice I5 hp hb ne (Heap.IsSliceOf.new ..) pl pu h0 hij hj hz fun s' I' => ⟨σ, _, I', q⟩
/-! ### more comprehensions, index -/
section
variable {K : PySem.W.Frag} {B : Hp} {G : List Sl} {te tl : TE} {g : TG} {vs : List Nat} {d : PD} {ds es : List PD}
theorem eo_lcR {ta : TA} {j0 : Int} {n : Nat} (h : EvAP K B ta G [.int j0]) (hj : j0.toNat = n) (hb : -(2 ^ 62) ≤ j0 ∧ j0 < 2 ^ 62) (hz : n < sizeLine) (hlen : es.length = n)
    (body : ∀ B', Same B B' → ∀ (k : Nat) e, k < n → es[k]? = some e → ∃ G2, Tg K B' g vs (.int (k : Int)) (wipeS (frz G) vs) G2 ∧ Ev K B' te G2 e) : EvO K B (tLc (iRng1 ta) g tYes te vs) G es := fun σ H I Q q =>
  h σ H I _ fun us H1 e1 h1 => by
    cases h1 with
    | cons h1 h2 =>
      cases h1; cases h2
      refine ⟨j0, rfl, hb.1, hb.2, fun D hD => ?_⟩
      rw [hj]
      have IF := (I.ex e1).frz.wipe vs
      refine ⟨fun i m H' => m = n - i ∧ i ≤ n ∧ Same H1 H' ∧ ∃ acc, H' D = some (.lst acc) ∧ DqAll K H1 H' acc (es.take i), ⟨_, rfl, Nat.zero_le _, same_new hD, [], upd_same, by rw [List.take_zero]; exact .nil⟩, ?_⟩
      rintro i m H2 ⟨rfl, hi, s2, acc, hacc, hq⟩
      by_cases hlt : i < n
      · have hel : i < es.length := by rw [hlen]; exact hlt
        have hee : es[i]? = some es[i] := List.getElem?_eq_getElem hel
        refine .inr ⟨hlt, fun H' => i + 1 ≤ n ∧ Same H1 H' ∧ ∃ acc, H' D = some (.lst acc) ∧ DqAll K H1 H' acc (es.take (i + 1)), fun H' ⟨z1, z2⟩ => ⟨_, by omega, rfl, z1, z2⟩, fun x H' y => ?_⟩
        obtain ⟨rfl, rfl⟩ := y
        obtain ⟨G2, T, E⟩ := body H1 (I.sm.trans e1) i _ hlt hee
        refine T.to _ _ H' (IF.ex s2) (by rw [Int.zero_add]; exact .base (.int _)) _ fun σ3 I3 w3 => ⟨w3.trans (wipe_wipe σ vs), ?_⟩
        show te σ3 _ _
        refine E σ3 H' I3 _ fun z H4 e4 hz4 => ⟨acc, e4 _ _ hacc, ?_, by omega, ?_, acc ++ [z], upd_same, ?_⟩
        · rw [hq.1, List.length_take]; omega
        · intro b o hb
          rw [upd_ne (by rintro rfl; rw [hD] at hb; cases hb)]
          exact e4 b o (s2 b o hb)
        · have ts := upd_sqt (K := K) (o := .lst (acc ++ [z])) (e4 _ _ hacc)
          rw [List.take_add_one, hee]
          exact ((hq.ex e4).mono ts).snoc (hz4.mono ts)
      · have e : i = n := by omega
        subst e
        refine .inl ⟨Nat.le_refl _, q D H2 acc (same_there e1 D hD) (e1.trans s2) hacc ?_⟩
        rw [← hlen, List.take_length] at hq
        exact hq.dp s2
theorem ev_index {z : PD} {j : Nat} (h : EvO K B tl G ds) (h' : EvP K B te G d) (sl : SeqAt.shaped (.list ds) = true) (sd : SeqAt.shaped d = true) (hz : ds[j]? = some z) (he : PyData.eqv z d = true) (hn : ∀ (m : Nat) (z' : PyData), m < j → ds[m]? = some z' → PyData.eqv z' d = false) :
    Ev K B (tBM K "list" (rIndexD K) tl (tCons te tNil)) G (.int (j : Nat)) := fun σ H I Q q =>
  h σ H I _ fun a H1 xs hna e1 ha hd => ⟨.inl ⟨rfl, xs, .of ha⟩, h' σ H1 (I.ex e1) _ fun v H2 e2 h2 => ⟨a, v, d, ds, j, z, rfl, rfl, .lst (.of (e2 _ _ ha)) (dpa_ex e2 hd), h2, sl, sd, hz, he, hn, q _ H2 (e1.trans e2) (.base (.int _))⟩⟩
end
/-! ### class Walk: its state -/
def kf (lv nv rv qv : V) : List (Str × V) := [("lines", lv), ("now", nv), ("row", rv), ("waits", qv)]
theorem k1_ : (("now" : Str) == "lines") = false := by decide +kernel
theorem k2_ : (("row" : Str) == "lines") = false := by decide +kernel
theorem k3_ : (("row" : Str) == "now") = false := by decide +kernel
theorem k4_ : (("waits" : Str) == "lines") = false := by decide +kernel
theorem k5_ : (("waits" : Str) == "now") = false := by decide +kernel
theorem k6_ : (("waits" : Str) == "row") = false := by decide +kernel
theorem kn1 : ¬ (("lines" : Str) = "now") := by decide +kernel
theorem kn2 : ¬ (("lines" : Str) = "row") := by decide +kernel
theorem kn3 : ¬ (("now" : Str) = "row") := by decide +kernel
theorem kn4 : ¬ (("lines" : Str) = "waits") := by decide +kernel
theorem kn5 : ¬ (("now" : Str) = "waits") := by decide +kernel
theorem kn6 : ¬ (("row" : Str) = "waits") := by decide +kernel
section
variable {lv nv rv qv v : V}
theorem kf_lines : (kf lv nv rv qv).lookup ("lines" : Str) = some lv := by simp [kf, List.lookup]
theorem kf_now : (kf lv nv rv qv).lookup ("now" : Str) = some nv := by simp [kf, List.lookup, k1_]
theorem kf_row : (kf lv nv rv qv).lookup ("row" : Str) = some rv := by simp [kf, List.lookup, k2_, k3_]
theorem kf_waits : (kf lv nv rv qv).lookup ("waits" : Str) = some qv := by simp [kf, List.lookup, k4_, k5_, k6_]
theorem kf_no {m : Str} (h1 : (m == ("lines" : Str)) = false) (h2 : (m == ("now" : Str)) = false) (h3 : (m == ("row" : Str)) = false) (h4 : (m == ("waits" : Str)) = false) : (kf lv nv rv qv).lookup m = none := by simp [kf, List.lookup, h1, h2, h3, h4]
theorem kf_put : putF "now" v (kf lv nv rv qv) = kf lv v rv qv := by
  show (if ("lines" : Str) = "now" then _ else (("lines" : Str), lv) :: (if ("now" : Str) = "now" then (("now" : Str), v) :: [(("row" : Str), rv), (("waits" : Str), qv)] else _)) = _
  rw [if_neg kn1, if_pos rfl]; rfl
theorem kf_1 : putF "lines" lv [] = ([("lines", lv)] : List (Str × V)) := rfl
theorem kf_2 : putF "now" nv ([("lines", lv)] : List (Str × V)) = ([("lines", lv), ("now", nv)] : List (Str × V)) := by
  show (if ("lines" : Str) = "now" then _ else (("lines" : Str), lv) :: [(("now" : Str), nv)]) = _
  rw [if_neg kn1]
theorem kf_3 : putF "row" rv ([("lines", lv), ("now", nv)] : List (Str × V)) = ([("lines", lv), ("now", nv), ("row", rv)] : List (Str × V)) := by
  show (if ("lines" : Str) = "row" then _ else (("lines" : Str), lv) :: (if ("now" : Str) = "row" then _ else (("now" : Str), nv) :: [(("row" : Str), rv)])) = _
  rw [if_neg kn2, if_neg kn3]
theorem kf_4 : putF "waits" qv ([("lines", lv), ("now", nv), ("row", rv)] : List (Str × V)) = kf lv nv rv qv := by
  show (if ("lines" : Str) = "waits" then _ else (("lines" : Str), lv) :: (if ("now" : Str) = "waits" then _ else (("now" : Str), nv) :: (if ("row" : Str) = "waits" then _ else (("row" : Str), rv) :: [(("waits" : Str), qv)]))) = _
  rw [if_neg kn4, if_neg kn5, if_neg kn6]; rfl
end
structure TxtK (K : PySem.W.Frag) (mg : Str → Option Value) (CK CW : Addr) extends Txt mg where
  cl_Walk : Cls K CK
  cl_Waiting : Cls K CW
  nL : NoAttr K CK "lines"
  nN : NoAttr K CK "now"
  nR : NoAttr K CK "row"
  nQ : NoAttr K CK "waits"
  nT : NoAttr K CW "tree"
  nK : NoAttr K CW "kept"
theorem TxtK.w {K : PySem.W.Frag} {mg : Str → Option Value} {CK CW : Addr} (T : TxtK K mg CK CW) : WCls K CW := ⟨T.cl_Waiting, T.nT, T.nK⟩
structure Stt where
  now : Rat
  row : List Nat
  ps : List Pr
def rowV (row : List Nat) : List V := row.map fun x : Nat => V.int (x : Int)
/-- behind B a Walk stands at W: over the lines f, in the state S -/
def WkAt (P : Program) (w : World) (K : PySem.W.Frag) (CK CW : Addr) (n : Nat) (f : Nat → Ln) (B H : Hp) (W : Addr) (S : Stt) : Prop :=
  B W = none ∧ ∃ dx lb rb q nv xs, H W = some (.ins CK dx (kf (.ref lb) nv (.ref rb) (.ref q))) ∧ B lb = none ∧ B rb = none ∧ lb ≠ rb ∧ H lb = some (.lst xs) ∧ DpAll K H xs ((List.range n).map fun i => lnD (f i)) ∧
    H rb = some (.lst (rowV S.row)) ∧ Dp K H nv (nm S.now) ∧ WtAt P w K CW B H q S.ps
/-- what a walk works over -/
structure OkS (n : Nat) (f : Nat → Ln) (S : Stt) : Prop where
  hf : SzF f
  hn : n ≤ 7
  sz : Sz 600 S.now
  lt : ∀ x ∈ S.row, x < n
  nd : S.row.Nodup
  len : S.row.length ≤ 7
theorem lines_noL (n : Nat) (f : Nat → Ln) : noL.noLs ((List.range n).map fun i => lnD (f i)) = true := noLs_iff.mpr fun d hd => by
  obtain ⟨i, _, rfl⟩ := List.mem_map.mp hd
  exact lnD_noL _
theorem dpa_mono {K : PySem.W.Frag} {H H' : Hp} {xs : List V} {ds : List PD} (n : noL.noLs ds = true) (t : Ts K H H') (h : DpAll K H xs ds) : DpAll K H' xs ds := by
  obtain ⟨l, i⟩ := dpa_iff.mp h
  exact dpa_iff.mpr ⟨l, fun k v e e1 e2 => dp_mono (noLs_iff.mp n e (List.mem_of_getElem? e2)) t (i k v e e1 e2)⟩
theorem rowV_dp {K : PySem.W.Frag} {H : Hp} : ∀ row : List Nat, DpAll K H (rowV row) (natsD row)
  | [] => .nil
  | x :: r => .cons (.int _) (rowV_dp r)
section
variable {P : Program} {w : World} {K : PySem.W.Frag} {mg : Str → Option Value} {base : Heap} {CK CW : Addr} {n : Nat} {f : Nat → Ln} {B B' H H' : Hp} {W : Addr} {S : Stt} {G : List Sl} {te ta tb : TE}
theorem WkAt.ex (e : Same H H') (h : WkAt P w K CK CW n f B H W S) : WkAt P w K CK CW n f B H' W S := by
  obtain ⟨h0, dx, lb, rb, q, nv, xs, h1, h2, h3, h4, h5, h6, h7, h8, h9⟩ := h
  exact ⟨h0, dx, lb, rb, q, nv, xs, e _ _ h1, h2, h3, h4, e _ _ h5, dpa_ex e h6, e _ _ h7, dp_ex e h8, h9.ex e⟩
theorem WtAt.rebase {q : Addr} {ps : List Pr} (hb : ∀ a, B a = none → B' a = none) (h : WtAt P w K CW B H q ps) : WtAt P w K CW B' H q ps := by
  obtain ⟨h0, dx, d, tv, t, h1, h2, h3, h4, h5⟩ := h
  exact ⟨hb _ h0, dx, d, tv, t, h1, h2, h3, hb _ h4, h5⟩
theorem WkAt.rebase (hb : ∀ a, B a = none → B' a = none) (h : WkAt P w K CK CW n f B H W S) : WkAt P w K CK CW n f B' H W S := by
  obtain ⟨h0, dx, lb, rb, q, nv, xs, h1, h2, h3, h4, h5, h6, h7, h8, h9⟩ := h
  exact ⟨hb _ h0, dx, lb, rb, q, nv, xs, h1, hb _ h2, hb _ h3, h4, h5, h6, h7, h8, h9.rebase hb⟩
/-- a thing that isn't the Waiting's changes -/
theorem WtAt.out {q a : Addr} {ps : List Pr} {o : HO} (h : WtAt P w K CW B H q ps) (hq : a ≠ q) (hd : ∀ φ, H a ≠ some (.ext φ)) (t : Ts K H (upd H a o)) : WtAt P w K CW B (upd H a o) q ps := by
  obtain ⟨h0, dx, d, tv, tr, h1, h2, h3, h4, h5⟩ := h
  have hne : d ≠ a := by
    rintro rfl
    obtain ⟨φ, e⟩ := h3.isExt
    exact hd φ e
  exact ⟨h0, dx, d, tv, tr, by rw [upd_ne hq.symm]; exact h1, dp_mono (shD_noL _) t h2, h3.mono (upd_ne hne) t, h4, h5⟩
/-! readings of self -/
theorem wk_now (T : TxtK K mg CK CW) (h : WkAt P w K CK CW n f B H W S) (hs : G[0]? = some (.vl (.ref W))) : Ev K H (tFld K (tVar 0) "now") G (nm S.now) := by
  obtain ⟨h0, dx, lb, rb, q, nv, xs, h1, h2, h3, h4, h5, h6, h7, h8, h9⟩ := h
  exact ev_fld hs h1 T.cl_Walk T.nN kf_now (.base h8)
theorem wk_lines (T : TxtK K mg CK CW) (h : WkAt P w K CK CW n f B H W S) (hs : G[0]? = some (.vl (.ref W))) : EvP K H (tFld K (tVar 0) "lines") G (linesD n f) := by
  obtain ⟨h0, dx, lb, rb, q, nv, xs, h1, h2, h3, h4, h5, h6, h7, h8, h9⟩ := h
  exact ep_fld hs h1 T.cl_Walk T.nL kf_lines (.lst (.of h5) h6)
theorem wk_row (T : TxtK K mg CK CW) (h : WkAt P w K CK CW n f B H W S) (hs : G[0]? = some (.vl (.ref W))) : EvP K H (tFld K (tVar 0) "row") G (.list (natsD S.row)) := by
  obtain ⟨h0, dx, lb, rb, q, nv, xs, h1, h2, h3, h4, h5, h6, h7, h8, h9⟩ := h
  exact ep_fld hs h1 T.cl_Walk T.nR kf_row (.lst (.of h7) (rowV_dp _))
theorem wk_len (T : TxtK K mg CK CW) (h : WkAt P w K CK CW n f B H W S) (hs : G[0]? = some (.vl (.ref W))) : Ev K H (tCB (fun xs H Q => ∃ p ys, xs = [.ref p] ∧ (SqL K H p ys ∨ SqT K H p ys) ∧ Q (.int ys.length) H) (tCons (tFld K (tVar 0) "row") tNil)) G (.int (S.row.length : Int)) := (ev_len (wk_row T h hs)).is (by rw [natsD_len])
end
end PF

-- P18
set_option linter.all false
set_option maxRecDepth 100000
set_option maxHeartbeats 2000000
namespace PF
open PySem PySem.Spec PyProof.Rows L2 LT
section
variable (P : Program) (w : World) (K : PySem.W.Frag) (CK CW : Addr) (n : Nat) (f : Nat → Ln) (B : Hp) (W : Addr)
structure EnvW (H : Hp) (σ : L2.St) (G : List Sl) (S : Stt) : Prop where
  env : Env K H H σ G
  calm : G.all Sl.calm = true
  self : G[0]? = some (.vl (.ref W))
  wk : WkAt P w K CK CW n f B H W S
  sm : Same B H
def StW (t : TS) (G : List Sl) (S : Stt) (N : List Sl → Stt → Prop) (R : PD → Stt → Prop) : Prop := ∀ σ H D, EnvW P w K CK CW n f B W H σ G S →
  (∀ σ' H' G' S', N G' S' → EnvW P w K CK CW n f B W H' σ' G' S' → Ts K H H' → D.nx σ' H') →
  (∀ v d H' S', R d S' → WkAt P w K CK CW n f B H' W S' → Same B H' → Ts K H H' → Dp K H' v d → D.rt v H') → t D σ H
/-- a walk's method that changes it -/
def spMut (Pre : Nat → (Nat → Ln) → Stt → Int → Stt → Prop) : Sp := fun vs H Q _ => ∃ (n : Nat) (f : Nat → Ln) (B : Hp) (W : Addr) (at_ : Int) (S S' : Stt), vs = [.ref W, .int at_] ∧ Same B H ∧ WkAt P w K CK CW n f B H W S ∧ Pre n f S at_ S' ∧
  ∀ H', WkAt P w K CK CW n f B H' W S' → Same B H' → Ts K H H' → Q .non H'
end
theorem calm_set {G : List Sl} {i : Nat} {s : Sl} (h : G.all Sl.calm = true) (hs : s.calm = true) : (G.set i s).all Sl.calm = true := List.all_eq_true.mpr fun x hx => by
  rcases List.mem_or_eq_of_mem_set hx with z | rfl
  · exact List.all_eq_true.mp h x z
  · exact hs
theorem cutV_2 {xs : List V} {k : Nat} {a b : V} (h1 : xs[k]? = some a) (h2 : xs[k + 1]? = some b) : cutV xs (some (k : Int)) (some ((k : Int) + 2)) = [a, b] := by
  have l1 := (List.getElem?_eq_some_iff.mp h1).1
  have l2 := (List.getElem?_eq_some_iff.mp h2).1
  have e1 : HT.sIx xs.length 0 (some (k : Int)) = k := by
    unfold HT.sIx
    simp only
    split <;> omega
  have e2 : HT.sIx xs.length xs.length (some ((k : Int) + 2)) = k + 2 := by
    unfold HT.sIx
    simp only
    split <;> omega
  unfold cutV
  rw [e1, e2, show k + 2 - k = 2 by omega]
  apply List.ext_getElem?
  intro i
  rw [List.getElem?_take]
  by_cases c0 : i = 0
  · subst c0; rw [if_pos (by omega), List.getElem?_drop]; simpa using h1
  · by_cases c1 : i = 1
    · subst c1; rw [if_pos (by omega), List.getElem?_drop]; simpa using h2
    · rw [if_neg (by omega)]
      have : ([a, b] : List V)[i]? = none := List.getElem?_eq_none (by simp; omega)
      rw [this]
section
variable {P : Program} {w : World} {K : PySem.W.Frag} {mg : Str → Option Value} {base : Heap} {CK CW : Addr} {n : Nat} {f : Nat → Ln} {B B' H H' : Hp} {W : Addr} {S : Stt} {G : List Sl} {te tl ta tb : TE} {tc : TT} {t u : TS} {σ : L2.St} {N M : List Sl → Stt → Prop} {R : PD → Stt → Prop} {d : PD} {ds : List PD}
theorem EnvW.ex (e : Same H H') (I : EnvW P w K CK CW n f B W H σ G S) : EnvW P w K CK CW n f B W H' σ G S := ⟨I.env.move I.calm (Ts.same e), I.calm, I.self, I.wk.ex e, I.sm.trans e⟩
theorem EnvW.set {i : Nat} {v : V} (hi : i ≠ 0) (hn : noL d = true) (I : EnvW P w K CK CW n f B W H σ G S) (hv : Dp K H v d) : EnvW P w K CK CW n f B W H (σ.set i (some v)) (G.set i (.im d)) S :=
  ⟨I.env.set_im i (.base hv), calm_set I.calm hn, by rw [List.getElem?_set_ne hi]; exact I.self, I.wk, I.sm⟩
theorem w_seq (h : StW P w K CK CW n f B W t G S (fun G' S' => StW P w K CK CW n f B W u G' S' N R) R) : StW P w K CK CW n f B W (tSeq t u) G S N R := fun σ H D I q r =>
  h σ H { D with nx := u D } I (fun σ' H' G' S' st I' ts => st σ' H' D I' (fun σ2 H2 G2 S2 n2 I2 t2 => q σ2 H2 G2 S2 n2 I2 (ts.trans t2)) (fun v d H2 S2 hR hw hs t2 hd => r v d H2 S2 hR hw hs (ts.trans t2) hd)) r
theorem w_mono (h : StW P w K CK CW n f B W t G S M R) (k : ∀ G' S', M G' S' → N G' S') : StW P w K CK CW n f B W t G S N R := fun σ H D I q r => h σ H D I (fun σ' H' G' S' m => q σ' H' G' S' (k G' S' m)) r
theorem w_seqM (h : StW P w K CK CW n f B W t G S M R) (k : ∀ G' S', M G' S' → StW P w K CK CW n f B W u G' S' N R) : StW P w K CK CW n f B W (tSeq t u) G S N R := w_seq (w_mono h k)
theorem w_next (k : N G S) : StW P w K CK CW n f B W tNext G S N R := fun σ H D I q r => q σ H G S k I Ts.refl
theorem w_set {i : Nat} (h : ∀ H, WkAt P w K CK CW n f B H W S → Ev K H te G d) (hi : i ≠ 0) (hn : noL d = true) (k : N (G.set i (.im d)) S) : StW P w K CK CW n f B W (tAsg te (gName i)) G S N R := fun σ H D I q r =>
  h H I.wk σ H I.env _ fun v H1 e1 g => q _ H1 _ S k ((I.ex e1).set hi hn (g.dp e1)) (Ts.same e1)
theorem w_if {b : Bool} (h : ∀ H, WkAt P w K CK CW n f B H W S → EvT K H tc G b) (h1 : b = true → StW P w K CK CW n f B W t G S N R) (h2 : b = false → StW P w K CK CW n f B W u G S N R) : StW P w K CK CW n f B W (tIfS tc t u) G S N R := fun σ H D I q r =>
  h H I.wk σ H I.env _ fun H1 e1 => by
    cases b with
    | true => exact h1 rfl σ H1 D (I.ex e1) (fun σ' H' G' S' m I' t2 => q σ' H' G' S' m I' ((Ts.same e1).trans t2)) (fun v d H2 S2 hR hw hs t2 hd => r v d H2 S2 hR hw hs ((Ts.same e1).trans t2) hd)
    | false => exact h2 rfl σ H1 D (I.ex e1) (fun σ' H' G' S' m I' t2 => q σ' H' G' S' m I' ((Ts.same e1).trans t2)) (fun v d H2 S2 hR hw hs t2 hd => r v d H2 S2 hR hw hs ((Ts.same e1).trans t2) hd)
theorem w_ret (h : ∀ H, WkAt P w K CK CW n f B H W S → Ev K H te G d) (k : R d S) : StW P w K CK CW n f B W (tRet te) G S N R := fun σ H D I q r =>
  h H I.wk σ H I.env _ fun v H1 e1 g => r v d H1 S k (I.wk.ex e1) (I.sm.trans e1) (Ts.same e1) (g.dp e1)
/-- self.m(at), a change of the state -/
theorem w_call {Pre : Nat → (Nat → Ln) → Stt → Int → Stt → Prop} {m : Str} {at_ : Int} {S' : Stt} (h : ∀ H, WkAt P w K CK CW n f B H W S → EvP K H te G (.int at_)) (hp : Pre n f S at_ S') (k : N G S')
    (h1 : (m == ("lines" : Str)) = false := by decide +kernel) (h2 : (m == ("now" : Str)) = false := by decide +kernel) (h3 : (m == ("row" : Str)) = false := by decide +kernel) (h4 : (m == ("waits" : Str)) = false := by decide +kernel) :
    StW P w K CK CW n f B W (tDrop (tMeth CK m (spMut P w K CK CW Pre) [] E0 (tVar 0) (tCons te tNil))) G S N R := fun σ H D I q r => by
  obtain ⟨x, e0, ex⟩ := I.env.slot I.self
  cases (show x = some (V.ref W) from ex)
  obtain ⟨_, dx, lb, rb, qq, nv, xs, hW, _⟩ := id I.wk
  refine ⟨_, e0, W, dx, _, rfl, hW, kf_no h1 h2 h3 h4, h H I.wk σ H I.env _ fun v H1 e1 g => ?_⟩
  cases g
  exact ⟨n, f, B, W, at_, S, S', rfl, I.sm.trans e1, I.wk.ex e1, hp, fun H' hw hs ts => q σ H' G S' k ⟨I.env.move I.calm ((Ts.same e1).trans ts), I.calm, I.self, hw, hs⟩ ((Ts.same e1).trans ts)⟩
theorem w_forT {j : Nat} (hl : ∀ H, WkAt P w K CK CW n f B H W S → Ev K H tl G (.tuple ds)) (hn : noL.noLs ds = true) (hj : j ≠ 0) (Wv : Nat → List Sl → Stt → Prop) (h0 : Wv 0 G S)
    (hs : ∀ i d G' S', ds[i]? = some d → Wv i G' S' → StW P w K CK CW n f B W t (G'.set j (.im d)) S' (Wv (i + 1)) R) (hd : ∀ G' S', Wv ds.length G' S' → N G' S') : StW P w K CK CW n f B W (tFor (iTup K tl) (gName j) t) G S N R := fun σ H D I q r =>
  hl H I.wk σ H I.env _ fun v H1 e1 h1 => by
    have h1' := h1.dp e1
    cases h1' with
    | @tup a xs _ hx hxs =>
      obtain ⟨l, kk⟩ := dpa_iff.mp hxs
      refine ⟨a, rfl, ⟨xs, hx⟩, for_tup (K := K) (a := a) (xs := xs) (fun i σ' H' => ∃ G' S', Wv i G' S' ∧ EnvW P w K CK CW n f B W H' σ' G' S' ∧ Ts K H1 H') ⟨G, S, h0, I.ex e1, Ts.refl⟩ (fun i σ' H' _ ⟨_, _, _, _, ts⟩ => ts _ _ hx) ?_ ?_⟩
      · rintro i x σ' H' hi ⟨G', S', wv, I', ts⟩
        have hil : i < ds.length := by rw [← l]; exact (List.getElem?_eq_some_iff.mp hi).1
        have hde : ds[i]? = some ds[i] := List.getElem?_eq_getElem hil
        have nd : noL ds[i] = true := noLs_iff.mp hn _ (List.getElem_mem _)
        have hv := dp_mono nd ts (kk i x _ hi hde)
        refine hs i _ G' S' hde wv _ H' _ (I'.set hj nd hv) (fun σ2 H2 G2 S2 w2 I2 t2 => ⟨G2, S2, w2, I2, ts.trans t2⟩) (fun v d H2 S2 hR hw hs t2 hd => r v d H2 S2 hR hw hs (((Ts.same e1).trans ts).trans t2) hd)
      · rintro σ' H' ⟨G', S', wv, I', ts⟩
        exact q σ' H' G' S' (hd G' S' (l ▸ wv)) I' ((Ts.same e1).trans ts)
theorem w_forR {tA : TA} {j m : Nat} (hl : ∀ H, WkAt P w K CK CW n f B H W S → EvAP K H tA G [.int (m : Int)]) (hm : (m : Int) < 2 ^ 62) (hj : j ≠ 0) (Wv : Nat → List Sl → Stt → Prop) (h0 : Wv 0 G S)
    (hs : ∀ (i : Nat) G' S', i < m → Wv i G' S' → StW P w K CK CW n f B W t (G'.set j (.im (.int (i : Int)))) S' (Wv (i + 1)) R) (hd : ∀ G' S', Wv m G' S' → N G' S') : StW P w K CK CW n f B W (tFor (iRng1 tA) (gName j) t) G S N R := fun σ H D I q r =>
  hl H I.wk σ H I.env _ fun vs H1 e1 h1 => by
    cases h1 with
    | cons h1 h2 =>
      cases h1; cases h2
      refine ⟨m, rfl, by omega, hm, ?_⟩
      refine for_range (lo := 0) (n := (m : Int).toNat) (fun i σ' H' => ∃ G' S', Wv i G' S' ∧ EnvW P w K CK CW n f B W H' σ' G' S' ∧ Ts K H1 H') ⟨G, S, h0, I.ex e1, Ts.refl⟩ ?_ ?_
      · rintro i σ' H' hi ⟨G', S', wv, I', ts⟩
        have := hs i G' S' (by omega) wv
        rw [Int.zero_add]
        exact this _ H' _ (I'.set hj rfl (.int _)) (fun σ2 H2 G2 S2 w2 I2 t2 => ⟨G2, S2, w2, I2, ts.trans t2⟩) (fun v d H2 S2 hR hw hs t2 hd => r v d H2 S2 hR hw hs (((Ts.same e1).trans ts).trans t2) hd)
      · rintro σ' H' ⟨G', S', wv, I', ts⟩
        exact q σ' H' G' S' (hd G' S' (by simpa using wv)) I' ((Ts.same e1).trans ts)
theorem rowV_at {row : List Nat} {k : Nat} (h : k < row.length) : (rowV row)[k]? = some (.int (row.getD k 0 : Nat)) := by
  unfold rowV
  rw [List.getElem?_map, List.getElem?_eq_getElem h, getD_eq h]
  rfl
/-- one, other = self.row[at:at + 2] -/
theorem w_unl (T : TxtK K mg CK CW) {i j k : Nat} (ha : ∀ H, WkAt P w K CK CW n f B H W S → EvP K H ta G (.int (k : Int))) (hb : ∀ H, WkAt P w K CK CW n f B H W S → EvP K H tb G (.int ((k : Int) + 2))) (hk : k + 1 < S.row.length) (hi : i ≠ 0) (hj : j ≠ 0)
    (kk : N ((G.set i (.im (.int (S.row.getD k 0 : Nat)))).set j (.im (.int (S.row.getD (k + 1) 0 : Nat)))) S) :
    StW P w K CK CW n f B W (tAsg (tSl (rSlL K) (tFld K (tVar 0) "row") (tPart ta) (tPart tb)) (gUnl K 2 (gCons (gName i) (gCons (gName j) gNil)))) G S N R := fun σ H D I q r => by
  unfold tAsg tSl
  refine wk_row T I.wk I.self σ H I.env _ fun x H1 e1 h1 => ?_
  obtain ⟨_, dx, lb, rb, qq, nv, xs, hW, _, _, _, _, _, hrow, _⟩ := id I.wk
  refine (ha H I.wk) σ H1 (I.env.ex e1) _ fun y1 H2 e2 g2 => ?_
  cases g2
  refine ⟨_, rfl, (hb H I.wk) σ H2 ((I.env.ex e1).ex e2) _ fun y2 H3 e3 g3 => ?_⟩
  cases g3
  have e := (e1.trans e2).trans e3
  refine ⟨_, rfl, ?_⟩
  cases h1 with
  | @lst a zs _ hs hd =>
    have hz : zs = rowV S.row := by
      have := ints_of (ns := S.row.map fun x : Nat => (x : Int)) (by
        have : (S.row.map fun x : Nat => (x : Int)).map PyData.int = natsD S.row := by unfold natsD; rw [List.map_map]; rfl
        rw [this]; exact hd)
      rw [this]; unfold rowV; rw [List.map_map]; rfl
    subst hz
    refine ⟨a, _, rfl, sql_ex (e2.trans e3) hs, fun p hp => ?_⟩
    rw [cutV_2 (rowV_at (by omega)) (rowV_at hk)]
    have sp := same_new (o := .lst [.int (S.row.getD k 0 : Nat), .int (S.row.getD (k + 1) 0 : Nat)]) hp
    refine ⟨p, _, rfl, .of upd_same, rfl, ?_⟩
    refine ⟨_, _, rfl, ⟨_, _, rfl, ⟨rfl, ?_⟩⟩⟩
    exact q _ _ _ S kk ((((I.ex e).ex sp).set hi rfl (.int _)).set hj rfl (.int _)) (Ts.same (e.trans sp))
theorem swapAt_rowV {row : List Nat} {k : Nat} (hk : k + 1 < row.length) : rowV (swapAt row k) = (rowV row).take k ++ [V.int (row.getD (k + 1) 0 : Nat), V.int (row.getD k 0 : Nat)] ++ (rowV row).drop (k + 2) := by
  unfold swapAt rowV
  rw [List.map_append, List.map_append, List.map_take, List.map_drop]
  rfl
theorem ts_lst {a : Addr} {ys : List V} {o : HO} (h : H a = some (.lst ys)) : Ts K H (upd H a o) := fun b xs q => upd_sqt h b xs q
/-- self.row[at:at + 2] = [other, one] -/
theorem w_slc (T : TxtK K mg CK CW) {i j k : Nat} (hi : G[i]? = some (.im (.int (S.row.getD k 0 : Nat)))) (hj : G[j]? = some (.im (.int (S.row.getD (k + 1) 0 : Nat)))) (ha : ∀ H, WkAt P w K CK CW n f B H W S → EvP K H ta G (.int (k : Int))) (hb : ∀ H, WkAt P w K CK CW n f B H W S → EvP K H tb G (.int ((k : Int) + 2))) (hk : k + 1 < S.row.length) (hz : S.row.length ≤ 100)
    (kk : N G { S with row := swapAt S.row k }) :
    StW P w K CK CW n f B W (sSlc (tLst (tCons (tVar j) (tCons (tVar i) tNil))) (tFld K (tVar 0) "row") ta tb) G S N R := fun σ H D I q r => by
  refine (eo_lst (ds := [.int (S.row.getD (k + 1) 0 : Nat), .int (S.row.getD k 0 : Nat)]) (eap_cons (ev_var hj).p (eap_cons (ev_var hi).p eap_nil))) σ H I.env _ fun b H1 ys hb0 e1 hy hyd => ?_
  have hys := ints_of (ns := [(S.row.getD (k + 1) 0 : Nat), (S.row.getD k 0 : Nat)]) hyd
  subst hys
  have I1 := I.ex e1
  obtain ⟨x0, e0, ex0⟩ := I1.env.slot I1.self
  cases (show x0 = some (V.ref W) from ex0)
  obtain ⟨wb, dx, lb, rb, qq, nv, xs, hW, hlb, hrb, hne, hL, hLd, hrow, hnv, hwt⟩ := id I1.wk
  refine ⟨_, e0, W, CK, dx, _, _, rfl, hW, T.cl_Walk, T.nR, kf_row, ?_⟩
  refine (ha H1 I1.wk) σ H1 I1.env _ fun y1 H2 e2 g2 => (hb H1 I1.wk) σ H2 (I1.env.ex e2) _ fun y2 H3 e3 g3 => ?_
  cases g2; cases g3
  have e23 := e2.trans e3
  have hlen : (rowV S.row).length = S.row.length := List.length_map _
  have hneb : rb ≠ b := by
    rintro rfl
    obtain ⟨_, _, lb', rb', _, _, _, hW', _, _, _, _, _, hrow', _⟩ := id I.wk
    have hWW := e1 _ _ hW'
    rw [hW] at hWW
    injection hWW with hWW
    injection hWW with _ _ hk'
    simp only [kf, List.cons.injEq, Prod.mk.injEq, V.ref.injEq, true_and, and_true] at hk'
    have : rb = rb' := hk'.2.2.1
    subst this
    rw [hb0] at hrow'
    cases hrow'
  refine ⟨rb, b, rowV S.row, _, (k : Int), (k : Int) + 2, rfl, rfl, rfl, rfl, e23 _ _ hrow, e23 _ _ hy, hneb, by omega, by omega, by rw [hlen]; omega, ?_, ?_⟩
  · rw [hlen]
    show S.row.length + 2 ≤ sizeLine
    exact Nat.le_trans (show S.row.length + 2 ≤ 102 by omega) (by decide)
  · rw [show ((k : Int) + 2).toNat = k + 2 by omega, Int.toNat_natCast]
    have hsw := swapAt_rowV hk
    have I3 := I1.ex e23
    have t4 := ts_lst (K := K) (o := .lst (rowV (swapAt S.row k))) (e23 _ _ hrow)
    have hWne : W ≠ rb := by rintro rfl; rw [hW] at hrow; cases hrow
    have hqne : rb ≠ qq := by
      obtain ⟨_, _, _, _, _, hq, _⟩ := hwt
      rintro rfl; rw [hq] at hrow; cases hrow
    have tt : Ts K H (upd H3 rb (.lst (rowV (swapAt S.row k)))) := ((Ts.same e1).trans (Ts.same e23)).trans t4
    have hsl : ((rowV S.row).take k ++ [V.int (S.row.getD (k + 1) 0 : Nat), V.int (S.row.getD k 0 : Nat)] ++ (rowV S.row).drop (k + 2)) = rowV (swapAt S.row k) := hsw.symm
    show D.nx σ (upd H3 rb (.lst ((rowV S.row).take k ++ [V.int (S.row.getD (k + 1) 0 : Nat), V.int (S.row.getD k 0 : Nat)] ++ (rowV S.row).drop (k + 2))))
    rw [hsl]
    refine q σ _ G _ kk ⟨I3.env.move I3.calm t4, I.calm, I.self, ⟨wb, dx, lb, rb, qq, nv, xs, by rw [upd_ne hWne]; exact e23 _ _ hW, hlb, hrb, hne, by rw [upd_ne hne]; exact e23 _ _ hL, dpa_mono (lines_noL n f) ((Ts.same e23).trans t4) hLd, upd_same, dp_mono (nm_noL _) ((Ts.same e23).trans t4) hnv, (hwt.ex e23).out hqne (fun φ z => by rw [e23 _ _ hrow] at z; cases z) t4⟩, same_upd I3.sm hrb⟩ tt
/-- self.now = e -/
theorem w_now (T : TxtK K mg CK CW) {q : Rat} (h : ∀ H, WkAt P w K CK CW n f B H W S → Ev K H te G (nm q)) (kk : N G { S with now := q }) : StW P w K CK CW n f B W (sFld K (tVar 0) te "now") G S N R := fun σ H D I qq r => by
  refine h H I.wk σ H I.env _ fun v H1 e1 g => ?_
  have I1 := I.ex e1
  obtain ⟨x0, e0, ex0⟩ := I1.env.slot I1.self
  cases (show x0 = some (V.ref W) from ex0)
  obtain ⟨wb, dx, lb, rb, wq, nv, xs, hW, hlb, hrb, hne, hL, hLd, hrow, hnv, hwt⟩ := id I1.wk
  refine ⟨_, e0, W, CK, dx, _, rfl, hW, T.cl_Walk, T.nN, (by show 4 < 1000; decide), ?_⟩
  rw [kf_put]
  have t4 := Ts.ins (K := K) (o := .ins CK dx (kf (.ref lb) v (.ref rb) (.ref wq))) hW
  have n1 : lb ≠ W := by rintro rfl; rw [hW] at hL; cases hL
  have n2 : rb ≠ W := by rintro rfl; rw [hW] at hrow; cases hrow
  have n3 : W ≠ wq := by
    obtain ⟨_, _, _, _, _, hq, _⟩ := hwt
    rintro rfl
    rw [hW] at hq
    injection hq with hq
    injection hq with _ _ hq
    exact absurd (show (4 : Nat) = 2 from congrArg List.length hq) (by decide)
  refine qq σ _ G _ kk ⟨I1.env.move I1.calm t4, I.calm, I.self, ⟨wb, dx, lb, rb, wq, v, xs, upd_same, hlb, hrb, hne, by rw [upd_ne n1]; exact hL, dpa_mono (lines_noL n f) t4 hLd, by rw [upd_ne n2]; exact hrow, dp_mono (nm_noL _) t4 (g.dp e1), hwt.out n3 (fun φ z => by rw [hW] at z; cases z) t4⟩, same_upd I1.sm wb⟩ ((Ts.same e1).trans t4)
end
end PF

-- P19
set_option linter.all false
set_option maxRecDepth 100000
set_option maxHeartbeats 4000000
namespace PF
open PySem PySem.Spec PyProof.Rows L2 LT
def papO (f : Nat → Ln) (row : List Nat) (now : Rat) (at_ : Int) : PD :=
  if 0 ≤ at_ ∧ at_ + 1 < (row.length : Int) then .tuple [.int (row.getD at_.toNat 0 : Nat), .int (row.getD (at_.toNat + 1) 0 : Nat), optD (till f (row.getD at_.toNat 0) (row.getD (at_.toNat + 1) 0) now)] else .none
theorem papO_noL (f : Nat → Ln) (row : List Nat) (now : Rat) (at_ : Int) : noL (papO f row now at_) = true := by
  unfold papO
  split
  · show noL.noLs _ = true
    simp only [noL.noLs, noL, optD_noL, Bool.and_true]
  · rfl
theorem papO_at {f : Nat → Ln} {row : List Nat} {now : Rat} {k : Nat} (h : k + 1 < row.length) : papO f row now (k : Int) = .tuple [.int (row.getD k 0 : Nat), .int (row.getD (k + 1) 0 : Nat), optD (till f (row.getD k 0) (row.getD (k + 1) 0) now)] := by
  unfold papO
  rw [if_pos ⟨by omega, by omega⟩, Int.toNat_natCast]
section
variable {K : PySem.W.Frag} {B H : Hp} {G : List Sl} {te tr ta tb : TE} {t : TS} {σ : L2.St} {N : List Sl → Prop} {R : Rt → Prop} {d : PD} {ds : List PD} {Q : VK}
theorem goIS (I : Env K H H σ G) (h : St K H t G (fun _ => False) (fun r => r = .im d)) (q : ∀ v H', Same H H' → Dp K H' v d → Q v H') : t { nx := fun _ H' => Q .non H', rt := Q } σ H :=
  h σ H _ I (fun _ _ _ z => z.elim) ⟨fun d' v H' e s g => by cases e; exact q v H' s (g.dp s), fun _ _ _ _ e => (by cases e)⟩
theorem goOS (I : Env K H H σ G) (h : St K H t G (fun _ => False) (fun r => r = .ow ds)) (q : ∀ a H' xs, H a = none → Same H H' → H' a = some (.lst xs) → DpAll K H' xs ds → Q (.ref a) H') : t { nx := fun _ H' => Q .non H', rt := Q } σ H :=
  h σ H _ I (fun _ _ _ z => z.elim) ⟨fun _ _ _ e => (by cases e), fun ds' a xs H' e s hn ha g => by cases e; exact q a H' xs hn s ha (g.dp s)⟩
theorem row_of {xs : List V} {row : List Nat} {H : Hp} (hd : DpAll K H xs (natsD row)) : xs = rowV row := by
  have := ints_of (ns := row.map fun x : Nat => (x : Int)) (by
    have : (row.map fun x : Nat => (x : Int)).map PyData.int = natsD row := by unfold natsD; rw [List.map_map]; rfl
    rw [this]; exact hd)
  rw [this]; unfold rowV; rw [List.map_map]; rfl
theorem s_unlR {row : List Nat} {i j k : Nat} (hr : EvP K B tr G (.list (natsD row))) (ha : EvP K B ta G (.int (k : Int))) (hb : EvP K B tb G (.int ((k : Int) + 2))) (hk : k + 1 < row.length)
    (kk : N ((G.set i (.im (.int (row.getD k 0 : Nat)))).set j (.im (.int (row.getD (k + 1) 0 : Nat))))) :
    St K B (tAsg (tSl (rSlL K) tr (tPart ta) (tPart tb)) (gUnl K 2 (gCons (gName i) (gCons (gName j) gNil)))) G N R := fun σ H D I q r => by
  unfold tAsg tSl
  refine hr σ H I _ fun x H1 e1 h1 => ?_
  refine ha σ H1 (I.ex e1) _ fun y1 H2 e2 g2 => ?_
  cases g2
  refine ⟨_, rfl, hb σ H2 ((I.ex e1).ex e2) _ fun y2 H3 e3 g3 => ?_⟩
  cases g3
  have e := (e1.trans e2).trans e3
  refine ⟨_, rfl, ?_⟩
  cases h1 with
  | @lst a zs _ hs hd =>
    have hz := row_of hd
    subst hz
    refine ⟨a, _, rfl, sql_ex (e2.trans e3) hs, fun p hp => ?_⟩
    rw [cutV_2 (rowV_at (by omega)) (rowV_at hk)]
    have sp := same_new (o := .lst [.int (row.getD k 0 : Nat), .int (row.getD (k + 1) 0 : Nat)]) hp
    refine ⟨p, _, rfl, .of upd_same, rfl, ?_⟩
    refine ⟨_, _, rfl, ⟨_, _, rfl, ⟨rfl, ?_⟩⟩⟩
    refine q _ _ _ kk ⟨fun b o _ h => (e.trans sp) b o h, fun b hb' => .inl (own_set_im (own_set_im hb')), same_there (e.trans sp)⟩ ((((I.ex e).ex sp).set_im i (.base (.int _))).set_im j (.base (.int _)))
/-- paper[:2] -/
theorem ev_cut2 {a b c : PD} (h : Ev K B te G (.tuple [a, b, c])) : Ev K B (tSl (rSlT K) te tNoPart (tPart (tC (.int 2)))) G (.tuple [a, b]) := fun σ H I Q q =>
  h σ H I _ fun v H1 e1 h1 => by
    obtain ⟨p, xs, rfl, hs, hq⟩ := h1.tup_inv (I.sm.trans e1)
    match xs, hq, hs with
    | [x1, x2, x3], hq, hs =>
      refine ⟨2, rfl, p, [x1, x2, x3], rfl, hs, fun z => absurd z.2 (by show ¬ (2 : Nat) = 3; decide), fun pp hp => ?_⟩
      have sp := same_new (o := .tup (cutV [x1, x2, x3] none (some 2))) hp
      refine q _ _ (e1.trans sp) (.tup (xs := [x1, x2]) (.of upd_same) (.cons ((hq.2 0 _ _ rfl rfl).ex sp) (.cons ((hq.2 1 _ _ rfl rfl).ex sp) .nil)))
end
section
variable {P : Program} {w : World} {K : PySem.W.Frag} {mg : Str → Option Value} {base : Heap} {CK CW : Addr} {n : Nat} {f : Nat → Ln} {B B0 H H' : Hp} {W : Addr} {S : Stt} {G : List Sl} {te tl ta tb : TE} {tc : TT} {t u : TS} {σ : L2.St} {N M : List Sl → Stt → Prop} {R : PD → Stt → Prop} {d : PD} {ds : List PD}
/-! paper_at -/
def spPaper (P : Program) (w : World) (K : PySem.W.Frag) (CK CW : Addr) : Sp := fun vs H Q _ => ∃ (n : Nat) (f : Nat → Ln) (B : Hp) (W : Addr) (at_ : Int) (S : Stt), vs = [.ref W, .int at_] ∧ WkAt P w K CK CW n f B H W S ∧ OkS n f S ∧
  ∀ v H', Same H H' → Dp K H' v (papO f S.row S.now at_) → Q v H'
abbrev s_Walk_paper_at : Stmt := inClass (topS 54) 3
theorem sc_Walk_paper_at : FnScope ["self", "at", "one", "other"] ["self", "at"] (defScope s_Walk_paper_at) := ⟨rfl, rfl, rfl, by decide +kernel, rfl, by decide +kernel, by decide +kernel⟩
theorem ok_Walk_paper_at (D : Dm K CK "paper_at" "Walk.paper_at" s_Walk_paper_at ["self", "at"]) (T : TxtK K mg CK CW) (C_till_of : Cal P w K mg base 6 "till_of" ["lines", "one", "other", "time"] (SpI K R_till_of)) : CalM P w K mg base 7 CK "paper_at" ["self", "at"] (spPaper P w K CK CW) := by
  refine CalM.of D sc_Walk_paper_at (fun vs H Q E h => by obtain ⟨n, f, B, W, at_, S, rfl, _⟩ := h; rfl) (fun f cdv A outer s H vs Q E hr h => ?_)
  obtain ⟨n, f, B, W, at_, S, rfl, wk, ok, q⟩ := h
  refine ⟨_, (pss_cons (ps_if (PW.pt (pw_or (pt_cmpR op_lt (pv 1) pe_int (nomark _)) (pw_or1 (pt_cmpR op_ge (pe_op op_add (pv 1) pe_int) (pe_callB call_len_seq (by rfl) T.z_len boot_len (pa_cons (pe_fld (pv 0) rfl) pa_nil)) (nomark _))))) (pss_one (ps_ret pe_non)) pss_nil)
      (pss_cons (ps_asg (pe_slice sl_list (pe_fld (pv 0) rfl) (po_some (pv 1)) (po_some (pe_op op_add (pv 1) pe_int))) (pg_unl rfl (pgs_cons (pg_name (i := 2) sc_Walk_paper_at.nd rfl (.inl rfl)) (pgs_cons (pg_name (i := 3) sc_Walk_paper_at.nd rfl (.inl rfl)) pgs_nil))))
      (pss_one (ps_ret (pe_tup (pa_cons (pv 2) (pa_cons (pv 3) (pa_cons (pe_cal C_till_of (hr.mono (by omega)) (by rfl) (pa_cons (pe_fld (pv 0) rfl) (pa_cons (pv 2) (pa_cons (pv 3) (pa_cons (pe_fld (pv 0) rfl) pa_nil))))) pa_nil)))))))), ?_⟩
  refine goIS (env_self (q := W) (n := 2) (DpAll.cons (.int at_) .nil)) ?_ q
  refine s_seq (s_if (et_or (et_test (ev_op (ev_var rfl).p ev_int.p op_ib)) (fun _ => et_test (ev_op (ev_op (ev_var rfl).p ev_int.p op_i0).p (wk_len T wk rfl).p op_ib))) (fun hb => s_ret ev_non ?_) (fun hb => s_next ?_))
  · have : ¬ (0 ≤ at_ ∧ at_ + 1 < (S.row.length : Int)) := by
      rcases Bool.or_eq_true _ _ ▸ hb with h | h
      · have := of_decide_eq_true h; omega
      · have := of_decide_eq_true h; omega
    unfold papO; rw [if_neg this]
  · have hc : 0 ≤ at_ ∧ at_ + 1 < (S.row.length : Int) := by
      have h := Bool.or_eq_false_iff.mp hb
      have h1 := of_decide_eq_false h.1
      have h2 := of_decide_eq_false h.2
      omega
    obtain ⟨k, rfl⟩ := Int.eq_ofNat_of_zero_le hc.1
    have hk : k + 1 < S.row.length := by omega
    have x1 := ok.lt _ (mem_getD (row := S.row) (k := k) (by omega))
    have x2 := ok.lt _ (mem_getD (row := S.row) (k := k + 1) hk)
    refine s_seq (s_unlR (k := k) (wk_row T wk rfl) (ev_var rfl).p (ev_op (ev_var rfl).p ev_int.p op_i0).p hk (s_ret (ev_tup (ea_cons (ev_var rfl) (ea_cons (ev_var rfl) (ea_cons (ev_till_of ok.hf ok.sz x1 x2 (wk_lines T wk rfl) (ev_var rfl).p (ev_var rfl).p (wk_now T wk rfl).p) ea_nil)))) ?_))
    rw [papO_at hk]
theorem ev_paper {i : Nat} {at_ : Int} (wk : WkAt P w K CK CW n f B0 B W S) (ok : OkS n f S) (hs : G[0]? = some (.vl (.ref W))) (h : EvP K B ta G (.int at_)) : Ev K B (tMeth CK "paper_at" (spPaper P w K CK CW) [] E0 (tVar 0) (tCons ta tNil)) G (papO f S.row S.now at_) := fun σ H I Q q => by
  obtain ⟨x, e0, ex⟩ := I.slot hs
  cases (show x = some (V.ref W) from ex)
  obtain ⟨_, dx, lb, rb, qq, nv, xs, hW, _⟩ := id wk
  refine ⟨_, e0, W, dx, _, rfl, I.sm _ _ hW, kf_no (by decide +kernel) (by decide +kernel) (by decide +kernel) (by decide +kernel), h σ H I _ fun v H1 e1 g => ?_⟩
  cases g
  exact ⟨n, f, B0, W, at_, S, rfl, wk.ex (I.sm.trans e1), ok, fun v H2 e2 hd => q v H2 (e1.trans e2) (dq_of (papO_noL _ _ _ _) hd)⟩
/-! papers -/
def spPapers (P : Program) (w : World) (K : PySem.W.Frag) (CK CW : Addr) : Sp := fun vs H Q _ => ∃ (n : Nat) (f : Nat → Ln) (B : Hp) (W : Addr) (S : Stt), vs = [.ref W] ∧ WkAt P w K CK CW n f B H W S ∧ OkS n f S ∧
  ∀ a H' xs, H a = none → Same H H' → H' a = some (.lst xs) → DpAll K H' xs ((List.range (S.row.length - 1)).map fun (k : Nat) => papO f S.row S.now (k : Int)) → Q (.ref a) H'
abbrev s_Walk_papers : Stmt := inClass (topS 54) 4
theorem sc_Walk_papers : FnScope ["self", "at"] ["self"] (defScope s_Walk_papers) := ⟨rfl, rfl, rfl, by decide +kernel, rfl, by decide +kernel, by decide +kernel⟩
theorem ok_Walk_papers (D : Dm K CK "papers" "Walk.papers" s_Walk_papers ["self"]) (T : TxtK K mg CK CW) (C_Walk_paper_at : CalM P w K mg base 7 CK "paper_at" ["self", "at"] (spPaper P w K CK CW)) : CalM P w K mg base 8 CK "papers" ["self"] (spPapers P w K CK CW) := by
  refine CalM.of D sc_Walk_papers (fun vs H Q E h => by obtain ⟨n, f, B, W, S, rfl, _⟩ := h; rfl) (fun f cdv A outer s H vs Q E hr h => ?_)
  obtain ⟨n, f, B, W, S, rfl, wk, ok, q⟩ := h
  refine ⟨_, (pss_one (ps_ret (pe_lc (own := [("at", 1)]) (tt := tYes) rfl sc_Walk_papers.nd (pi_range1 (by rfl) T.z_range (pa_cons (pe_op op_sub (pe_callB call_len_seq (by rfl) T.z_len boot_len (pa_cons (pe_fld (pv 0) rfl) pa_nil)) pe_int) pa_nil)) (blkOk_by (own := [("at", 1)]) (N := ["self", "at"]) (sc := defScope (inClass (topS 54) 4)) (by decide +kernel)) (fun _ _ _ _ _ => (pg_name (i := 1) sc_Walk_papers.nd rfl (.inl rfl) (.inr rfl))) (fun _ _ _ _ _ => pts_nil) (fun _ _ _ _ _ => (pe_mcal T.cl_Walk C_Walk_paper_at (hr.mono (by omega)) (pv 0) (pa_cons (pv 1) pa_nil)))))), ?_⟩
  refine goOS (env_self (q := W) (n := 1) DpAll.nil) ?_ q
  have hz := ok.len
  refine s_retO (eo_lcR (n := S.row.length - 1) (eap_cons (ev_op (wk_len T wk rfl).p ev_int.p op_i0).p eap_nil) (by omega) ⟨by omega, by omega⟩ (small_sz (by omega)) (by simp) (fun B' sB k e hk he => ?_)) (noLs_iff.mpr fun d hd => ?_) rfl
  · have : e = papO f S.row S.now (k : Int) := by
      rw [List.getElem?_map, List.getElem?_range hk] at he
      exact (Option.some.inj he).symm
    subst this
    exact ⟨_, tg_name (j := 1) (by decide), ev_paper (i := 0) (wk.ex sB) ok rfl (ev_var rfl).p⟩
  · obtain ⟨k, _, rfl⟩ := List.mem_map.mp hd
    exact papO_noL _ _ _ _
theorem eo_papers (wk : WkAt P w K CK CW n f B0 B W S) (ok : OkS n f S) (hs : G[0]? = some (.vl (.ref W))) : EvO K B (tMeth CK "papers" (spPapers P w K CK CW) [] E0 (tVar 0) tNil) G ((List.range (S.row.length - 1)).map fun (k : Nat) => papO f S.row S.now (k : Int)) := fun σ H I Q q => by
  obtain ⟨x, e0, ex⟩ := I.slot hs
  cases (show x = some (V.ref W) from ex)
  obtain ⟨_, dx, lb, rb, qq, nv, xs, hW, _⟩ := id wk
  exact ⟨_, e0, W, dx, _, rfl, I.sm _ _ hW, kf_no (by decide +kernel) (by decide +kernel) (by decide +kernel) (by decide +kernel), n, f, B0, W, S, rfl, wk.ex I.sm, ok, q⟩
/-! first -/
theorem ev_first (T : TxtK K mg CK CW) (wk : WkAt P w K CK CW n f B0 B W S) (hs : G[0]? = some (.vl (.ref W))) : Ev K B (tMeth CW "first" (spFirst P w K CW) [] E0 (tFld K (tVar 0) "waits") tNil) G (optPr (firstO S.ps)) := fun σ H I Q q => by
  obtain ⟨x, e0, ex⟩ := I.slot hs
  cases (show x = some (V.ref W) from ex)
  obtain ⟨_, dx, lb, rb, qq, nv, xs, hW, _, _, _, _, _, _, _, wt⟩ := id (wk.ex I.sm)
  obtain ⟨_, dx', _, tv, _, hq, _⟩ := id wt
  exact ⟨_, e0, W, CK, dx, _, _, rfl, hW, T.cl_Walk, T.nQ, kf_waits, qq, dx', _, rfl, hq, wf_no (by decide +kernel) (by decide +kernel), B0, qq, S.ps, rfl, wt, fun v hd => q v H (Same.refl H) (dq_of (optPr_noL _) hd)⟩
/-! put, take -/
theorem WkAt.parts {dx lb rb q : Addr} {nv : V} (wk : WkAt P w K CK CW n f B H W S) (hW : H W = some (.ins CK dx (kf (.ref lb) nv (.ref rb) (.ref q)))) (sm : Same B H) :
    ∃ B1 : Hp, Same B1 H ∧ WtAt P w K CW B1 H q S.ps ∧ ∀ H' ps', Same B1 H' → Ts K H H' → WtAt P w K CW B1 H' q ps' → WkAt P w K CK CW n f B H' W { S with ps := ps' } ∧ Same B H' := by
  obtain ⟨wb, dx1, lb1, rb1, q1, nv1, xs, hW1, hlb, hrb, hne, hL, hLd, hrow, hnv, hwt⟩ := wk
  rw [hW] at hW1
  injection hW1 with hW1
  injection hW1 with _ hdx hk
  simp only [kf, List.cons.injEq, Prod.mk.injEq, V.ref.injEq, true_and, and_true] at hk
  obtain ⟨rfl, rfl, rfl, rfl⟩ := hk
  subst hdx
  obtain ⟨qb, dxq, d, tv, tr, hq, ht, hK, hd, hrest⟩ := id hwt
  have n1 : q ≠ W := by
    rintro rfl
    rw [hW] at hq
    injection hq with hq
    injection hq with _ _ hq
    exact absurd (show (4 : Nat) = 2 from congrArg List.length hq) (by decide)
  have n2 : q ≠ lb := by rintro rfl; rw [hL] at hq; cases hq
  have n3 : q ≠ rb := by rintro rfl; rw [hrow] at hq; cases hq
  obtain ⟨φ, hφ⟩ := hK.isExt
  have m1 : d ≠ W := by rintro rfl; rw [hW] at hφ; cases hφ
  have m2 : d ≠ lb := by rintro rfl; rw [hL] at hφ; cases hφ
  have m3 : d ≠ rb := by rintro rfl; rw [hrow] at hφ; cases hφ
  refine ⟨fun a => if a = W ∨ a = lb ∨ a = rb then H a else B a, fun a o h => ?_, ⟨?_, dxq, d, tv, tr, hq, ht, hK, ?_, hrest⟩, fun H' ps' s' ts wt' => ⟨⟨wb, dx, lb, rb, q, nv, xs, ?_, hlb, hrb, hne, ?_, dpa_mono (lines_noL n f) ts hLd, ?_, dp_mono (nm_noL _) ts hnv, wt'.rebase fun a ha => ?_⟩, fun a o h => ?_⟩⟩
  · dsimp only at h
    split at h
    · exact h
    · exact sm a o h
  · dsimp only; rw [if_neg (by rintro (h | h | h) <;> contradiction)]; exact qb
  · dsimp only; rw [if_neg (by rintro (h | h | h) <;> contradiction)]; exact hd
  · exact s' W _ (by dsimp only; rw [if_pos (.inl rfl)]; exact hW)
  · exact s' lb _ (by dsimp only; rw [if_pos (.inr (.inl rfl))]; exact hL)
  · exact s' rb _ (by dsimp only; rw [if_pos (.inr (.inr rfl))]; exact hrow)
  · try dsimp only at ha
    split at ha
    · rename_i c
      rcases c with rfl | rfl | rfl
      · exact wb
      · exact hlb
      · exact hrb
    · exact ha
  · refine s' a o ?_
    show (if a = W ∨ a = lb ∨ a = rb then H a else B a) = some o
    split
    · exact sm a o h
    · exact h
theorem w_put (T : TxtK K mg CK CW) {p : Pr} (ha : ∀ H, WkAt P w K CK CW n f B H W S → EvP K H ta G (nm p.1)) (hb : ∀ H, WkAt P w K CK CW n f B H W S → EvP K H tb G (keyD p.2)) (hz : Sz 600 p.1) (hn : p ∉ S.ps) (hl : S.ps.length ≤ 7) (k : N G { S with ps := S.ps ++ [p] }) :
    StW P w K CK CW n f B W (tDrop (tMeth CW "put" (spPut P w K CW) [] E0 (tFld K (tVar 0) "waits") (tCons ta (tCons tb tNil)))) G S N R := fun σ H D I q r => by
  obtain ⟨x, e0, ex⟩ := I.env.slot I.self
  cases (show x = some (V.ref W) from ex)
  obtain ⟨_, dx, lb, rb, qq, nv, xs, hW, _, _, _, _, _, _, _, wt⟩ := id I.wk
  obtain ⟨_, dx', _, tv, _, hq, _⟩ := id wt
  refine ⟨_, e0, W, CK, dx, _, _, rfl, hW, T.cl_Walk, T.nQ, kf_waits, qq, dx', _, rfl, hq, wf_no (by decide +kernel) (by decide +kernel), ?_⟩
  refine ha H I.wk σ H I.env _ fun v1 H1 e1 g1 => hb H I.wk σ H1 (I.env.ex e1) _ fun v2 H2 e2 g2 => ?_
  have e12 := e1.trans e2
  obtain ⟨B1, s1, w1, back⟩ := (I.wk.ex e12).parts (e12 _ _ hW) (I.sm.trans e12)
  refine ⟨B1, qq, v1, v2, p, S.ps, rfl, s1, w1, dp_ex e2 g1, g2, hz, hn, hl, fun H' wt' s' ts => ?_⟩
  obtain ⟨wk', sm'⟩ := back H' _ s' ts wt'
  have tt := (Ts.same e12).trans ts
  exact q σ H' G _ k ⟨I.env.move I.calm tt, I.calm, I.self, wk', sm'⟩ tt
theorem w_take (T : TxtK K mg CK CW) {p : Pr} (ha : ∀ H, WkAt P w K CK CW n f B H W S → EvP K H ta G (nm p.1)) (hb : ∀ H, WkAt P w K CK CW n f B H W S → EvP K H tb G (keyD p.2)) (hz : Sz 600 p.1) (hn : p ∈ S.ps) (hl : S.ps.length ≤ 8) (k : N G { S with ps := S.ps.filter fun e => decide (e ≠ p) }) :
    StW P w K CK CW n f B W (tDrop (tMeth CW "take" (spTake P w K CW) [] E0 (tFld K (tVar 0) "waits") (tCons ta (tCons tb tNil)))) G S N R := fun σ H D I q r => by
  obtain ⟨x, e0, ex⟩ := I.env.slot I.self
  cases (show x = some (V.ref W) from ex)
  obtain ⟨_, dx, lb, rb, qq, nv, xs, hW, _, _, _, _, _, _, _, wt⟩ := id I.wk
  obtain ⟨_, dx', _, tv, _, hq, _⟩ := id wt
  refine ⟨_, e0, W, CK, dx, _, _, rfl, hW, T.cl_Walk, T.nQ, kf_waits, qq, dx', _, rfl, hq, wf_no (by decide +kernel) (by decide +kernel), ?_⟩
  refine ha H I.wk σ H I.env _ fun v1 H1 e1 g1 => hb H I.wk σ H1 (I.env.ex e1) _ fun v2 H2 e2 g2 => ?_
  have e12 := e1.trans e2
  obtain ⟨B1, s1, w1, back⟩ := (I.wk.ex e12).parts (e12 _ _ hW) (I.sm.trans e12)
  refine ⟨B1, qq, v1, v2, p, S.ps, rfl, s1, w1, dp_ex e2 g1, g2, hz, hn, hl, fun H' wt' s' ts => ?_⟩
  obtain ⟨wk', sm'⟩ := back H' _ s' ts wt'
  have tt := (Ts.same e12).trans ts
  exact q σ H' G _ k ⟨I.env.move I.calm tt, I.calm, I.self, wk', sm'⟩ tt
/-! keep, drop -/
theorem meet_600 {f : Nat → Ln} (hf : SzF f) {i j : Nat} {t T : Rat} (ht : Sz 600 t) (h : till f i j t = some T) : Sz 600 T := by
  unfold till at h
  split at h
  · cases h; exact ht
  · unfold nextC at h
    split at h
    · rename_i c
      cases h
      exact sz_mono (meet_sz (hf i) (hf j) c.1) (by decide)
    · cases h
def preKeep (n : Nat) (f : Nat → Ln) (S : Stt) (at_ : Int) (S' : Stt) : Prop := OkS n f S ∧ (∀ e, prO f S.row S.now at_ = some e → e ∉ S.ps) ∧ S.ps.length ≤ 7 ∧ S' = { S with ps := keepP (prO f S.row S.now at_) S.ps }
def preDrop (n : Nat) (f : Nat → Ln) (S : Stt) (at_ : Int) (S' : Stt) : Prop := OkS n f S ∧ (∀ e, prO f S.row S.now at_ = some e → e ∈ S.ps) ∧ S.ps.length ≤ 8 ∧ S' = { S with ps := dropP (prO f S.row S.now at_) S.ps }
/-- a body over a walk -/
theorem goW {Pre : Nat → (Nat → Ln) → Stt → Int → Stt → Prop} {at_ : Int} {S' : Stt} {Q : VK} (I : EnvW P w K CK CW n f B W H σ G S) (h : StW P w K CK CW n f B W t G S (fun _ S2 => S2 = S') (fun _ _ => False))
    (k : ∀ H', WkAt P w K CK CW n f B H' W S' → Same B H' → Ts K H H' → Q .non H') : t { nx := fun _ H' => Q .non H', rt := Q } σ H :=
  h σ H _ I (fun σ' H' G' S2 e I' ts => by subst e; exact k H' I'.wk I'.sm ts) (fun _ _ _ _ z => z.elim)
abbrev s_Walk_keep : Stmt := inClass (topS 54) 5
theorem sc_Walk_keep : FnScope ["self", "at", "paper"] ["self", "at"] (defScope s_Walk_keep) := ⟨rfl, rfl, rfl, by decide +kernel, rfl, by decide +kernel, by decide +kernel⟩
theorem ok_Walk_keep (D : Dm K CK "keep" "Walk.keep" s_Walk_keep ["self", "at"]) (T : TxtK K mg CK CW) (C_Walk_paper_at : CalM P w K mg base 7 CK "paper_at" ["self", "at"] (spPaper P w K CK CW)) (C_Waiting_put : CalM P w K mg base 20 CW "put" ["self", "time", "key"] (spPut P w K CW)) :
    CalM P w K mg base 21 CK "keep" ["self", "at"] (spMut P w K CK CW preKeep) := by
  refine CalM.of D sc_Walk_keep (fun vs H Q E h => by obtain ⟨n, f, B, W, at_, S, S', rfl, _⟩ := h; rfl) (fun f cdv A outer s H vs Q E hr h => ?_)
  obtain ⟨n, f, B, W, at_, S, S', rfl, sm, wk, ⟨ok, hno, hlen, rfl⟩, k⟩ := h
  refine ⟨_, (pss_cons (ps_set (i := 2) sc_Walk_keep.nd rfl (.inl rfl) (pe_mcal T.cl_Walk C_Walk_paper_at (hr.mono (by omega)) (pv 0) (pa_cons (pv 1) pa_nil)))
      (pss_one (ps_if (PW.pt (pw_and (pt_cmpR op_notN (pv 2) pe_non (nomark _)) (pw_and1 (pt_cmpR op_notN (pe_ix (ix_tupK (K := K) rfl) (pv 2) pe_int (fun _ _ => rfl)) pe_non (nomark _))))) (pss_one (ps_expr (pe_mcal T.cl_Waiting C_Waiting_put (hr.mono (by omega)) (pe_fld (pv 0) rfl) (pa_cons (pe_ix (ix_tupK (K := K) rfl) (pv 2) pe_int (fun _ _ => rfl)) (pa_cons (pe_slice sl_tup (pv 2) po_none (po_some pe_int)) pa_nil))))) pss_nil))), ?_⟩
  have I0 := env_self (K := K) (H := H) (q := W) (n := 1) (DpAll.cons (.int at_) .nil)
  refine goW (Pre := preKeep) (at_ := at_) ⟨I0, rfl, rfl, wk, sm⟩ ?_ k
  refine w_seq (w_set (fun H wk => ev_paper (i := 0) wk ok rfl (ev_var rfl).p) (by decide) (papO_noL _ _ _ _) ?_)
  by_cases hc : 0 ≤ at_ ∧ at_ + 1 < (S.row.length : Int)
  · obtain ⟨j, rfl⟩ := Int.eq_ofNat_of_zero_le hc.1
    have hj : j + 1 < S.row.length := by omega
    rw [papO_at hj]
    cases ht : till f (S.row.getD j 0) (S.row.getD (j + 1) 0) S.now with
    | none =>
      have hp : prO f S.row S.now (j : Int) = none := by unfold prO; rw [if_pos hc, Int.toNat_natCast, ht]; rfl
      refine w_if (b := false) (fun H wk => (et_and (et_test (ev_op (ev_var rfl).p ev_non.p op_isnot')) (fun _ => et_test (ev_op (ev_t2 (ev_var rfl)).p ev_non.p op_isnot'))).is rfl) (fun z => nomatch z) (fun _ => w_next ?_)
      rw [hp]; rfl
    | some tm =>
      have hp := prO_of hj ht
      rw [hp] at hno ⊢
      refine w_if (b := true) (fun H wk => (et_and (et_test (ev_op (ev_var rfl).p ev_non.p op_isnot')) (fun _ => et_test (ev_op (ev_t2 (ev_var rfl)).p ev_non.p op_isnot'))).is rfl) (fun _ => ?_) (fun z => nomatch z)
      exact w_put T (p := (tm, (S.row.getD j 0, S.row.getD (j + 1) 0))) (fun H wk => (ev_t2 (ev_var rfl)).p) (fun H wk => (ev_cut2 (ev_var rfl)).p) (meet_600 ok.hf ok.sz ht) (hno _ rfl) hlen rfl
  · have hp : prO f S.row S.now at_ = none := by unfold prO; rw [if_neg hc]
    have hd : papO f S.row S.now at_ = .none := by unfold papO; rw [if_neg hc]
    rw [hd]
    refine w_if (b := false) (fun H wk => (et_and (b := false) (et_test (ev_op (ev_var rfl).p ev_non.p op_isnot')) (fun z => absurd z (by decide))).is rfl) (fun z => nomatch z) (fun _ => w_next ?_)
    rw [hp]; rfl
abbrev s_Walk_drop : Stmt := inClass (topS 54) 6
theorem sc_Walk_drop : FnScope ["self", "at", "paper"] ["self", "at"] (defScope s_Walk_drop) := ⟨rfl, rfl, rfl, by decide +kernel, rfl, by decide +kernel, by decide +kernel⟩
theorem ok_Walk_drop (D : Dm K CK "drop" "Walk.drop" s_Walk_drop ["self", "at"]) (T : TxtK K mg CK CW) (C_Walk_paper_at : CalM P w K mg base 7 CK "paper_at" ["self", "at"] (spPaper P w K CK CW)) (C_Waiting_take : CalM P w K mg base 29 CW "take" ["self", "time", "key"] (spTake P w K CW)) :
    CalM P w K mg base 30 CK "drop" ["self", "at"] (spMut P w K CK CW preDrop) := by
  refine CalM.of D sc_Walk_drop (fun vs H Q E h => by obtain ⟨n, f, B, W, at_, S, S', rfl, _⟩ := h; rfl) (fun f cdv A outer s H vs Q E hr h => ?_)
  obtain ⟨n, f, B, W, at_, S, S', rfl, sm, wk, ⟨ok, hno, hlen, rfl⟩, k⟩ := h
  refine ⟨_, (pss_cons (ps_set (i := 2) sc_Walk_drop.nd rfl (.inl rfl) (pe_mcal T.cl_Walk C_Walk_paper_at (hr.mono (by omega)) (pv 0) (pa_cons (pv 1) pa_nil)))
      (pss_one (ps_if (PW.pt (pw_and (pt_cmpR op_notN (pv 2) pe_non (nomark _)) (pw_and1 (pt_cmpR op_notN (pe_ix (ix_tupK (K := K) rfl) (pv 2) pe_int (fun _ _ => rfl)) pe_non (nomark _))))) (pss_one (ps_expr (pe_mcal T.cl_Waiting C_Waiting_take (hr.mono (by omega)) (pe_fld (pv 0) rfl) (pa_cons (pe_ix (ix_tupK (K := K) rfl) (pv 2) pe_int (fun _ _ => rfl)) (pa_cons (pe_slice sl_tup (pv 2) po_none (po_some pe_int)) pa_nil))))) pss_nil))), ?_⟩
  have I0 := env_self (K := K) (H := H) (q := W) (n := 1) (DpAll.cons (.int at_) .nil)
  refine goW (Pre := preDrop) (at_ := at_) ⟨I0, rfl, rfl, wk, sm⟩ ?_ k
  refine w_seq (w_set (fun H wk => ev_paper (i := 0) wk ok rfl (ev_var rfl).p) (by decide) (papO_noL _ _ _ _) ?_)
  by_cases hc : 0 ≤ at_ ∧ at_ + 1 < (S.row.length : Int)
  · obtain ⟨j, rfl⟩ := Int.eq_ofNat_of_zero_le hc.1
    have hj : j + 1 < S.row.length := by omega
    rw [papO_at hj]
    cases ht : till f (S.row.getD j 0) (S.row.getD (j + 1) 0) S.now with
    | none =>
      have hp : prO f S.row S.now (j : Int) = none := by unfold prO; rw [if_pos hc, Int.toNat_natCast, ht]; rfl
      refine w_if (b := false) (fun H wk => (et_and (et_test (ev_op (ev_var rfl).p ev_non.p op_isnot')) (fun _ => et_test (ev_op (ev_t2 (ev_var rfl)).p ev_non.p op_isnot'))).is rfl) (fun z => nomatch z) (fun _ => w_next ?_)
      rw [hp]; rfl
    | some tm =>
      have hp := prO_of hj ht
      rw [hp] at hno ⊢
      refine w_if (b := true) (fun H wk => (et_and (et_test (ev_op (ev_var rfl).p ev_non.p op_isnot')) (fun _ => et_test (ev_op (ev_t2 (ev_var rfl)).p ev_non.p op_isnot'))).is rfl) (fun _ => ?_) (fun z => nomatch z)
      exact w_take T (p := (tm, (S.row.getD j 0, S.row.getD (j + 1) 0))) (fun H wk => (ev_t2 (ev_var rfl)).p) (fun H wk => (ev_cut2 (ev_var rfl)).p) (meet_600 ok.hf ok.sz ht) (hno _ rfl) hlen rfl
  · have hp : prO f S.row S.now at_ = none := by unfold prO; rw [if_neg hc]
    have hd : papO f S.row S.now at_ = .none := by unfold papO; rw [if_neg hc]
    rw [hd]
    refine w_if (b := false) (fun H wk => (et_and (b := false) (et_test (ev_op (ev_var rfl).p ev_non.p op_isnot')) (fun z => absurd z (by decide))).is rfl) (fun z => nomatch z) (fun _ => w_next ?_)
    rw [hp]; rfl
end
end PF

-- P20
set_option linter.all false
set_option maxRecDepth 100000
set_option maxHeartbeats 4000000
theorem L2.Room.units1 {k : Nat} {A : PySem.Around} (r : L2.Room k A) : A.units + 65 < PySem.cLine := by have := r.un; omega
namespace PF
open PySem PySem.Spec PyProof.Rows L2 LT
def stD (s : Rat × Nat × Nat) : PD := .tuple [nm s.1, .int (s.2.1 : Nat), .int (s.2.2 : Nat)]
theorem stD_noL (s : Rat × Nat × Nat) : noL (stD s) = true := rfl
theorem stDs_noL (l : List (Rat × Nat × Nat)) : noL.noLs (l.map stD) = true := noLs_iff.mpr fun d hd => by
  obtain ⟨s, _, rfl⟩ := List.mem_map.mp hd
  exact stD_noL s
theorem opt_eqv (x : Option Rat) (T : Rat) : PyData.eqv (optD x) (nm T) = decide (x = some T) := by
  cases x with
  | none =>
    rw [decide_eq_false (fun z => nomatch z)]
    simp only [optD, nm, PyData.eqv]
  | some t =>
    show PyData.eqv (nm t) (nm T) = _
    rw [nm_eqv]
    by_cases h : t = T
    · subst h; simp
    · rw [decide_eq_false h, decide_eq_false fun z => h (Option.some.inj z)]
theorem OkS.of {n : Nat} {f : Nat → Ln} {S : Stt} {now : Rat} {row : List Nat} {ps : List Pr} (ok : OkS n f S) (hs : Sz 600 now) (hp : row.Perm S.row) : OkS n f ⟨now, row, ps⟩ :=
  ⟨ok.hf, ok.hn, hs, fun x hx => ok.lt x (hp.mem_iff.mp hx), hp.nodup_iff.mpr ok.nd, by show row.length ≤ 7; rw [hp.length_eq]; exact ok.len⟩
theorem dropP_nodup {o : Option Pr} {ps : List Pr} (hn : ps.Nodup) : (dropP o ps).Nodup := by
  cases o with
  | none => exact hn
  | some e => exact hn.filter _
section
variable {P : Program} {w : World} {K : PySem.W.Frag} {mg : Str → Option Value} {base : Heap} {CK CW : Addr} {n : Nat} {f : Nat → Ln} {B B0 H H' : Hp} {W : Addr} {S : Stt} {G : List Sl} {te tl ta tb : TE} {tc : TT} {t u : TS} {σ : L2.St} {N M : List Sl → Stt → Prop} {R : PD → Stt → Prop} {d : PD} {ds : List PD}
theorem goWR {Q : VK} (I : EnvW P w K CK CW n f B W H σ G S) (h : StW P w K CK CW n f B W t G S (fun _ _ => False) R)
    (k : ∀ v d H' S', R d S' → WkAt P w K CK CW n f B H' W S' → Same B H' → Ts K H H' → Dp K H' v d → Q v H') : t { nx := fun _ H' => Q .non H', rt := Q } σ H :=
  h σ H _ I (fun _ _ _ _ z => z.elim) k
/-- the walk's word -/
structure WkI (n : Nat) (f : Nat → Ln) (S : Stt) : Prop where
  ok : OkS n f S
  wi : WI n f S.row S.now
  al : All f S.row S.now S.ps
  nd : S.ps.Nodup
def spStep (P : Program) (w : World) (K : PySem.W.Frag) (CK CW : Addr) : Sp := fun vs H Q _ => ∃ (n : Nat) (f : Nat → Ln) (B : Hp) (W : Addr) (S : Stt) (T : Rat), vs = [.ref W] ∧ Same B H ∧ WkAt P w K CK CW n f B H W S ∧ WkI n f S ∧ leastO (tills f S.row S.now) = some T ∧
  ∀ v H' S', WkI n f S' → S'.now = T → S'.row = swapAt S.row (atOf (tills f S.row S.now) T) → WkAt P w K CK CW n f B H' W S' → Same B H' → Ts K H H' → Dp K H' v (stD (T, S.row.getD (atOf (tills f S.row S.now) T) 0, S.row.getD (atOf (tills f S.row S.now) T + 1) 0)) → Q v H'
theorem three {a i : Nat} {d : PD} (h : ([.int ((a : Int) - 1), .int (a : Int), .int ((a : Int) + 1)] : List PD)[i]? = some d) : i < 3 ∧ d = .int ((a : Int) - 1 + (i : Int)) := by
  match i, h with
  | 0, h => simp at h; subst h; exact ⟨by omega, by simp⟩
  | 1, h => simp at h; subst h; exact ⟨by omega, by congr 1; omega⟩
  | 2, h => simp at h; subst h; exact ⟨by omega, by congr 1; omega⟩
abbrev s_Walk_step : Stmt := inClass (topS 54) 7
theorem sc_Walk_step : FnScope ["self", "first", "at", "place", "one", "other", "paper"] ["self"] (defScope s_Walk_step) := ⟨rfl, rfl, rfl, by decide +kernel, rfl, by decide +kernel, by decide +kernel⟩
theorem ok_Walk_step (D : Dm K CK "step" "Walk.step" s_Walk_step ["self"]) (T : TxtK K mg CK CW) (C_Waiting_first : CalM P w K mg base 1 CW "first" ["self"] (spFirst P w K CW)) (C_Walk_papers : CalM P w K mg base 8 CK "papers" ["self"] (spPapers P w K CK CW))
    (C_Walk_drop : CalM P w K mg base 30 CK "drop" ["self", "at"] (spMut P w K CK CW preDrop)) (C_Walk_keep : CalM P w K mg base 21 CK "keep" ["self", "at"] (spMut P w K CK CW preKeep)) : CalM P w K mg base 31 CK "step" ["self"] (spStep P w K CK CW) := by
  refine CalM.of D sc_Walk_step (fun vs H Q E h => by obtain ⟨n, f, B, W, S, T, rfl, _⟩ := h; rfl) (fun f cdv A outer s H vs Q E hr h => ?_)
  obtain ⟨n, f, B, W, S, tm, rfl, sm, wk, wi, hl, k⟩ := h
  refine ⟨_, (pss_cons (ps_set (i := 1) sc_Walk_step.nd rfl (.inl rfl) (pe_mcal0 T.cl_Waiting C_Waiting_first (hr.mono (by omega)) (pe_fld (pv 0) rfl)))
      (pss_cons (ps_if (pt_cmpR op_isN (pv 1) pe_non (nomark _)) (pss_one (ps_ret pe_non)) pss_nil)
      (pss_cons (ps_set (i := 2) sc_Walk_step.nd rfl (.inl rfl) (pe_bm PySem.F.plainAttrs_list PySem.F.slot_list_index PySem.F.type_list_index (mt_indexD hr.units1) (pe_lc (own := [("paper", 6)]) (tt := tYes) rfl sc_Walk_step.nd (pi_list (pe_mcal0 T.cl_Walk C_Walk_papers (hr.mono (by omega)) (pv 0))) (blkOk_by (own := [("paper", 6)]) (N := ["self", "first", "at", "place", "one", "other", "paper"]) (sc := defScope (inClass (topS 54) 7)) (by decide +kernel)) (fun _ _ _ _ _ => (pg_name (i := 6) sc_Walk_step.nd rfl (.inl rfl) (.inr rfl))) (fun _ _ _ _ _ => pts_nil) (fun _ _ _ _ _ => (pe_ix (ix_tupK (K := K) rfl) (pv 6) pe_int (fun _ _ => rfl)))) (pa_cons (pe_ix (ix_tupK (K := K) rfl) (pv 1) pe_int (fun _ _ => rfl)) pa_nil)))
      (pss_cons (ps_for PassesOwn.never rfl (pi_tup (pe_tup (pa_cons (pe_op op_sub (pv 2) pe_int) (pa_cons (pv 2) (pa_cons (pe_op op_add (pv 2) pe_int) pa_nil))))) (pg_name (i := 3) sc_Walk_step.nd rfl (.inl rfl)) (pss_one (ps_expr (pe_mcal T.cl_Walk C_Walk_drop (hr.mono (by omega)) (pv 0) (pa_cons (pv 3) pa_nil)))))
      (pss_cons (ps_asg (pe_slice sl_list (pe_fld (pv 0) rfl) (po_some (pv 2)) (po_some (pe_op op_add (pv 2) pe_int))) (pg_unl rfl (pgs_cons (pg_name (i := 4) sc_Walk_step.nd rfl (.inl rfl)) (pgs_cons (pg_name (i := 5) sc_Walk_step.nd rfl (.inl rfl)) pgs_nil))))
      (pss_cons (ps_slc (pe_lst (pa_cons (pv 5) (pa_cons (pv 4) pa_nil))) (pe_fld (pv 0) rfl) (pv 2) (pe_op op_add (pv 2) pe_int))
      (pss_cons (ps_fld (pv 0) (pe_ix (ix_tupK (K := K) rfl) (pv 1) pe_int (fun _ _ => rfl)) rfl)
      (pss_cons (ps_for PassesOwn.never rfl (pi_tup (pe_tup (pa_cons (pe_op op_sub (pv 2) pe_int) (pa_cons (pv 2) (pa_cons (pe_op op_add (pv 2) pe_int) pa_nil))))) (pg_name (i := 3) sc_Walk_step.nd rfl (.inl rfl)) (pss_one (ps_expr (pe_mcal T.cl_Walk C_Walk_keep (hr.mono (by omega)) (pv 0) (pa_cons (pv 3) pa_nil)))))
      (pss_one (ps_ret (pe_tup (pa_cons (pe_fld (pv 0) rfl) (pa_cons (pv 4) (pa_cons (pv 5) pa_nil)))))))))))))), ?_⟩
  have I0 := env_self (K := K) (H := H) (q := W) (n := 6) DpAll.nil
  obtain ⟨p, hp, hT⟩ : ∃ p, firstO S.ps = some p ∧ p.1 = tm := by
    have := first_least wi.al
    rw [hl] at this
    obtain ⟨p, h1, h2⟩ := Option.map_eq_some_iff.mp this
    exact ⟨p, h1, h2⟩
  have hmem := ((leastO_spec (tills f S.row S.now)).1 tm hl).1
  obtain ⟨a1, a2, a3⟩ := atOf_spec hmem
  obtain ⟨b1, b2, b3, b4⟩ := step_at hl
  have hpk := step_pk wi.wi hl
  obtain ⟨wi', _⟩ := step_wi wi.wi hl
  generalize hat : atOf (tills f S.row S.now) tm = a at *
  have hsz := meet_600 wi.ok.hf wi.ok.sz b2
  have hperm := swapAt_perm b1
  refine goWR (R := fun d S' => d = stD (tm, S.row.getD a 0, S.row.getD (a + 1) 0) ∧ WkI n f S' ∧ S'.now = tm ∧ S'.row = swapAt S.row a) ⟨I0, rfl, rfl, wk, sm⟩ ?_ (fun v d H' S' ⟨e, i', n', r'⟩ wk' sm' ts hv => k v H' S' i' n' r' wk' sm' ts (e ▸ hv))
  · show StW P w K CK CW n f B W _ [.vl (.ref W), .no, .no, .no, .no, .no, .no] S _ _
    refine w_seq (w_set (d := prW p) (fun H wk => (ev_first T wk rfl).is (by rw [hp]; rfl)) (by decide) rfl ?_)
    refine w_seq (w_if (b := false) (fun H wk => et_test ((ev_op (ev_var rfl).p ev_non.p op_is').is rfl)) (fun z => nomatch z) (fun _ => w_next ?_))
    refine w_seq (w_set (d := .int (a : Nat)) (fun H wk => ev_index (ds := (tills f S.row S.now).map optD) (d := nm tm) (z := nm tm) (eo_lc (eo_papers wk wi.ok rfl).p ?_ ?_ ?_) ((ev_t0 (ev_var rfl)).is (by rw [hT])).p ?_ (shp_nm _).sh ?_ (by rw [nm_eqv]; exact decide_eq_true rfl) ?_) (by decide) rfl ?_)
    · have := wi.ok.len
      rw [List.length_map, List.length_range]
      exact small_sz (by omega)
    · rw [List.length_map, List.length_map, List.length_range, tills_len]
    · intro B' j d e hd he
      have hj : j < S.row.length - 1 := by
        have := (List.getElem?_eq_some_iff.mp hd).1
        simpa using this
      rw [List.getElem?_map, List.getElem?_range hj] at hd
      cases hd
      rw [List.getElem?_map, tills_get (by omega)] at he
      cases he
      rw [show (fun (k : Nat) => papO f S.row S.now (k : Int)) j = papO f S.row S.now (j : Int) from rfl, papO_at (by omega)]
      exact ⟨_, tg_name (j := 6) (by decide), ev_t2 (ev_var rfl)⟩
    · exact (shp_lst fun d hd => by
        obtain ⟨x, _, rfl⟩ := List.mem_map.mp hd
        exact shp_opt x).sh
    · rw [List.getElem?_map, a2]; rfl
    · intro m z hm hz
      rw [List.getElem?_map] at hz
      obtain ⟨x, hx, rfl⟩ := Option.map_eq_some_iff.mp hz
      rw [opt_eqv]
      exact decide_eq_false fun h => a3 m hm (by rw [hx, h])
    refine w_seqM (M := fun G' S' => ∃ s3 ps, G' = [.vl (.ref W), .im (prW p), .im (.int (a : Nat)), s3, .no, .no, .no] ∧ S' = ⟨S.now, S.row, ps⟩ ∧ ps.Nodup ∧ ∀ e, e ∈ ps ↔ PK (Dn a 3) f S.row S.now e)
      (w_forT (ds := [.int ((a : Int) - 1), .int (a : Int), .int ((a : Int) + 1)]) (fun H wk => ev_tup (ea_cons (ev_op (ev_var rfl).p ev_int.p op_i0) (ea_cons (ev_var rfl) (ea_cons (ev_op (ev_var rfl).p ev_int.p op_i0) ea_nil)))) rfl (by decide)
        (fun i G' S' => ∃ s3 ps, G' = [.vl (.ref W), .im (prW p), .im (.int (a : Nat)), s3, .no, .no, .no] ∧ S' = ⟨S.now, S.row, ps⟩ ∧ ps.Nodup ∧ ∀ e, e ∈ ps ↔ PK (Dn a i) f S.row S.now e) ⟨_, S.ps, rfl, rfl, wi.nd, fun e => (wi.al e).trans (pk_congr (fun k => dn_0.symm) e)⟩ ?_ (fun G' S' h => h)) ?_
    · rintro i d G' S' hd ⟨s3, ps, rfl, rfl, hnd, hps⟩
      obtain ⟨hi, rfl⟩ := three hd
      obtain ⟨d1, d2⟩ := drop_pk (at_ := (a : Int) - 1 + (i : Int)) wi.ok.nd (fun k hk => dn_not hk) hps
      have hlen := pk_len (fun e he => (hps e).mp he) hnd
      exact w_call (Pre := preDrop) (fun H wk => (ev_var rfl).p) ⟨wi.ok.of wi.ok.sz (.refl _), d1, Nat.le_trans hlen (Nat.le_trans wi.ok.len (by decide)), rfl⟩ ⟨_, _, rfl, rfl, dropP_nodup hnd, fun e => (d2 e).trans (pk_congr (fun k => (dn_succ hi).symm) e)⟩
    · rintro G' S' ⟨s3, ps, rfl, rfl, hnd, hps⟩
      refine w_seq (w_unl T (k := a) (fun H wk => (ev_var rfl).p) (fun H wk => (ev_op (ev_var rfl).p ev_int.p op_i0).p) b1 (by decide) (by decide) ?_)
      refine w_seq (w_slc T (k := a) rfl rfl (fun H wk => (ev_var rfl).p) (fun H wk => (ev_op (ev_var rfl).p ev_int.p op_i0).p) b1 (Nat.le_trans wi.ok.len (by decide)) ?_)
      refine w_seq (w_now T (q := tm) (fun H wk => (ev_t0 (ev_var rfl)).is (by rw [hT])) ?_)
      have okn : ∀ {ps : List Pr}, OkS n f ⟨tm, swapAt S.row a, ps⟩ := wi.ok.of hsz hperm
      refine w_seqM (M := fun G' S' => ∃ s3 ps, G' = [.vl (.ref W), .im (prW p), .im (.int (a : Nat)), s3, .im (.int (S.row.getD a 0 : Nat)), .im (.int (S.row.getD (a + 1) 0 : Nat)), .no] ∧ S' = ⟨tm, swapAt S.row a, ps⟩ ∧ ps.Nodup ∧ ∀ e, e ∈ ps ↔ PK (Kn a 3) f (swapAt S.row a) tm e)
        (w_forT (ds := [.int ((a : Int) - 1), .int (a : Int), .int ((a : Int) + 1)]) (fun H wk => ev_tup (ea_cons (ev_op (ev_var rfl).p ev_int.p op_i0) (ea_cons (ev_var rfl) (ea_cons (ev_op (ev_var rfl).p ev_int.p op_i0) ea_nil)))) rfl (by decide)
          (fun i G' S' => ∃ s3 ps, G' = [.vl (.ref W), .im (prW p), .im (.int (a : Nat)), s3, .im (.int (S.row.getD a 0 : Nat)), .im (.int (S.row.getD (a + 1) 0 : Nat)), .no] ∧ S' = ⟨tm, swapAt S.row a, ps⟩ ∧ ps.Nodup ∧ ∀ e, e ∈ ps ↔ PK (Kn a i) f (swapAt S.row a) tm e) ⟨_, ps, rfl, rfl, hnd, fun e => ((hps e).trans (pk_congr (fun k => dn_3) e)).trans ((hpk e).trans (pk_congr (fun k => kn_0.symm) e))⟩ ?_ (fun G' S' h => h)) ?_
      · rintro i d G' S' hd ⟨s3, ps, rfl, rfl, hnd, hps⟩
        obtain ⟨hi, rfl⟩ := three hd
        obtain ⟨d1, d2⟩ := keep_pk (S := Kn a (i + 1)) (at_ := (a : Int) - 1 + (i : Int)) (okn (ps := ps)).nd (fun k hk => kn_not hk) (fun e => (hps e).trans (pk_congr (fun k => kn_succ hi) e))
        have hlen := pk_len (fun e he => (hps e).mp he) hnd
        exact w_call (Pre := preKeep) (fun H wk => (ev_var rfl).p) ⟨okn, d1, Nat.le_trans hlen (okn (ps := ps)).len, rfl⟩ ⟨_, _, rfl, rfl, keepP_nodup d1 hnd, d2⟩
      · rintro G' S' ⟨s3, ps, rfl, rfl, hnd, hps⟩
        exact w_ret (fun H wk => ev_tup (ea_cons (wk_now T wk rfl) (ea_cons (ev_var rfl) (ea_cons (ev_var rfl) ea_nil)))) ⟨rfl, ⟨okn, wi', fun e => (hps e).trans (pk_congr (fun k => kn_3) e), hnd⟩, rfl, rfl⟩
end
end PF

-- P21
set_option linter.all false
set_option maxRecDepth 100000
set_option maxHeartbeats 4000000
namespace PF
open PySem PySem.Spec PyProof.Rows L2 LT
section
variable {P : Program} {w : World} {K : PySem.W.Frag} {mg : Str → Option Value} {base : Heap} {CK CW : Addr} {n : Nat} {f : Nat → Ln} {B B0 H H' : Hp} {W : Addr} {S : Stt} {G : List Sl} {te tl ta tb : TE} {tc : TT} {t u : TS} {σ : L2.St} {N M : List Sl → Stt → Prop} {R : PD → Stt → Prop} {d : PD} {ds : List PD}
theorem WkAt.out {a : Addr} {ys : List V} {o : HO} (h : WkAt P w K CK CW n f B H W S) (ha : B a ≠ none) (hl : H a = some (.lst ys)) : WkAt P w K CK CW n f B (upd H a o) W S := by
  have t := ts_lst (K := K) (o := o) hl
  obtain ⟨h0, dx, lb, rb, q, nv, xs, h1, h2, h3, h4, h5, h6, h7, h8, h9⟩ := h
  have n1 : W ≠ a := by rintro rfl; exact ha h0
  have n2 : lb ≠ a := by rintro rfl; exact ha h2
  have n3 : rb ≠ a := by rintro rfl; exact ha h3
  have n4 : a ≠ q := by
    obtain ⟨q0, _⟩ := h9
    rintro rfl; exact ha q0
  exact ⟨h0, dx, lb, rb, q, nv, xs, by rw [upd_ne n1]; exact h1, h2, h3, h4, by rw [upd_ne n2]; exact h5, dpa_mono (lines_noL n f) t h6, by rw [upd_ne n3]; exact h7, dp_mono (nm_noL _) t h8, h9.out n4 (fun φ z => by rw [hl] at z; cases z) t⟩
theorem WkAt.fresh {a : Addr} {o : HO} (h : WkAt P w K CK CW n f B H W S) (ha : H a = none) : WkAt P w K CK CW n f (upd B a o) H W S := by
  obtain ⟨h0, dx, lb, rb, q, nv, xs, h1, h2, h3, h4, h5, h6, h7, h8, q0, dx', d, tv, t, g1, g2, g3, g4, g5⟩ := h
  have ne : ∀ {x : Addr} {u : HO}, H x = some u → x ≠ a := fun e z => by subst z; rw [ha] at e; cases e
  obtain ⟨φ, hφ⟩ := g3.isExt
  exact ⟨by rw [upd_ne (ne h1)]; exact h0, dx, lb, rb, q, nv, xs, h1, by rw [upd_ne (ne h5)]; exact h2, by rw [upd_ne (ne h7)]; exact h3, h4, h5, h6, h7, h8, by rw [upd_ne (ne g1)]; exact q0, dx', d, tv, t, g1, g2, g3, by rw [upd_ne (ne hφ)]; exact g4, g5⟩
def fuelOf (row : List Nat) : Nat := row.length * row.length + 1
def goD (f : Nat → Ln) (high : Rat) (S : Stt) : List PD := (goF f high (fuelOf S.row) S.row S.now).map stD
def spGo (P : Program) (w : World) (K : PySem.W.Frag) (CK CW : Addr) : Sp := fun vs H Q _ => ∃ (n : Nat) (f : Nat → Ln) (B : Hp) (W : Addr) (S : Stt) (high : Rat) (tv : V), vs = [.ref W, tv] ∧ Same B H ∧ WkAt P w K CK CW n f B H W S ∧ WkI n f S ∧ Dp K H tv (nm high) ∧ Sz 600 high ∧ ¬ high < S.now ∧
  ∀ a H' xs, H a = none → Same B H' → Ts K H H' → H' a = some (.lst xs) → DpAll K H' xs (goD f high S) → Q (.ref a) H'
theorem goF_stop {f : Nat → Ln} {high : Rat} {row : List Nat} {now : Rat} {ps : List Pr} (al : All f row now ps) (h : ∀ p, firstO ps = some p → high < p.1) : ∀ m, goF f high m row now = []
  | 0 => rfl
  | m + 1 => by
    have e := first_least al
    unfold goF
    cases hf : firstO ps with
    | none =>
      rw [hf] at e
      rw [← e]; rfl
    | some p =>
      rw [hf] at e
      rw [← e]
      show (if high < p.1 then _ else _) = _
      rw [if_pos (h p hf)]
theorem goF_step {f : Nat → Ln} {high : Rat} {row : List Nat} {now : Rat} {ps : List Pr} {p : Pr} (al : All f row now ps) (hf : firstO ps = some p) (h : ¬ high < p.1) (m : Nat) :
    leastO (tills f row now) = some p.1 ∧ goF f high (m + 1) row now = (p.1, row.getD (atOf (tills f row now) p.1) 0, row.getD (atOf (tills f row now) p.1 + 1) 0) :: goF f high m (swapAt row (atOf (tills f row now) p.1)) p.1 := by
  have e := first_least al
  rw [hf] at e
  have e' : leastO (tills f row now) = some p.1 := e.symm
  refine ⟨e', ?_⟩
  conv => lhs; unfold goF
  rw [e']
  show (if high < p.1 then _ else _) = _
  rw [if_neg h]
theorem szp {n : Nat} {f : Nat → Ln} {S : Stt} {p : Pr} (wi : WkI n f S) (h : firstO S.ps = some p) : Sz 600 p.1 := by
  obtain ⟨j1, _⟩ := (firstO_spec S.ps).1 p h
  obtain ⟨k, _, _, _, e⟩ := (wi.al p).mp j1
  exact meet_600 wi.ok.hf wi.ok.sz e
abbrev s_Walk_go : Stmt := inClass (topS 54) 8
theorem sc_Walk_go : FnScope ["self", "time", "found"] ["self", "time"] (defScope s_Walk_go) := ⟨rfl, rfl, rfl, by decide +kernel, rfl, by decide +kernel, by decide +kernel⟩
theorem ok_Walk_go (D : Dm K CK "go" "Walk.go" s_Walk_go ["self", "time"]) (T : TxtK K mg CK CW) (C_is_less : Cal P w K mg base 1 "is_less" ["a", "b"] (SpI K R_is_less)) (C_Waiting_first : CalM P w K mg base 1 CW "first" ["self"] (spFirst P w K CW))
    (C_Walk_step : CalM P w K mg base 31 CK "step" ["self"] (spStep P w K CK CW)) : CalM P w K mg base 32 CK "go" ["self", "time"] (spGo P w K CK CW) := by
  refine CalM.of D sc_Walk_go (fun vs H Q E h => by obtain ⟨n, f, B, W, S, high, tv, rfl, _⟩ := h; rfl) (fun f cdv A outer s H vs Q E hr h => ?_)
  obtain ⟨n, f, B, W, S, high, tv, rfl, sm, wk, wi, hv, hsz, hlo, k⟩ := h
  refine ⟨_, (pss_cons (ps_if (pt_val (pe_cal C_is_less (hr.mono (by omega)) (by rfl) (pa_cons (pv 1) (pa_cons (pe_fld (pv 0) rfl) pa_nil)))) (pss_one ps_never) pss_nil)
      (pss_cons (ps_set (i := 2) sc_Walk_go.nd rfl (.inl rfl) (pe_lst pa_nil))
      (pss_cons (ps_while PassesOwn.never (PW.pt (pw_and (pt_cmpR op_notN (pe_mcal0 T.cl_Waiting C_Waiting_first (hr.mono (by omega)) (pe_fld (pv 0) rfl)) pe_non (nomark _)) (pw_and1 (pt_not (pt_val (pe_cal C_is_less (hr.mono (by omega)) (by rfl) (pa_cons (pv 1) (pa_cons (pe_ix (ix_tupK (K := K) rfl) (pe_mcal0 T.cl_Waiting C_Waiting_first (hr.mono (by omega)) (pe_fld (pv 0) rfl)) pe_int (fun _ _ => rfl)) pa_nil)))))))) (pss_one (ps_expr (pe_bm PySem.F.plainAttrs_list PySem.F.slot_list_append PySem.F.type_list_append mt_append (pv 2) (pa_cons (pe_mcal0 T.cl_Walk C_Walk_step (hr.mono (by omega)) (pv 0)) pa_nil)))))
      (pss_cons (ps_fld (pv 0) (pv 1) rfl)
      (pss_one (ps_ret (pv 2))))))), ?_⟩
  have I0 : Env K H H _ _ := env_self (K := K) (H := H) (q := W) (n := 1) (DpAll.cons hv .nil)
  unfold tSeq
  unfold tIfS
  refine (et_B (ev_is_less (szb hsz) (szb wi.ok.sz) (ev_var rfl).p (wk_now T wk rfl).p)) _ H I0 _ fun H1 e1 => ?_
  rw [decide_eq_false hlo]
  refine ⟨Nat.zero_le _, fun a ha => ?_⟩
  have ha0 : H a = none := same_there e1 a ha
  have hBa : B a = none := same_there sm a ha0
  have wk1 := (wk.fresh (o := .lst []) ha0).ex (e1.trans (same_new (o := .lst []) ha))
  have hup : ∀ (o o' : HO) (x : Addr), upd B a o x = none → upd B a o' x = none := fun o o' x h => by
    by_cases c : x = a
    · subst c; rw [upd_same] at h; cases h
    · rw [upd_ne c] at h ⊢; exact h
  have Ifst : EnvW P w K CK CW n f (upd B a (.lst [])) W (upd H1 a (.lst [])) [some (.ref W), some tv, some (.ref a)] [.vl (.ref W), .im (nm high), .vl (.ref a)] S := by
    have sH : Same H (upd H1 a (.lst [])) := e1.trans (same_new ha)
    have hv1 := dp_ex sH hv
    refine ⟨⟨Same.refl _, rfl, fun i x s h1 h2 => ?_, fun i j b es fs h1 h2 => ?_⟩, rfl, rfl, wk1, fun x o hx => ?_⟩
    · match i, h1, h2 with
      | 0, h1, h2 => simp at h1 h2; subst h1 h2; rfl
      | 1, h1, h2 => simp at h1 h2; subst h1 h2; exact ⟨tv, rfl, .base hv1⟩
      | 2, h1, h2 => simp at h1 h2; subst h1 h2; rfl
    · match i, h1 with
      | 0, h1 => simp at h1
      | 1, h1 => simp at h1
      | 2, h1 => simp at h1
    · by_cases c : x = a
      · subst c; rw [upd_same] at hx ⊢; exact hx
      · rw [upd_ne c] at hx; exact sH _ _ (sm _ _ hx)
  refine ⟨fun m σ' H' => ∃ xs done S', σ' = [some (.ref W), some tv, some (.ref a)] ∧ EnvW P w K CK CW n f (upd B a (.lst xs)) W H' σ' [.vl (.ref W), .im (nm high), .vl (.ref a)] S' ∧ DpAll K H' xs (done.map stD) ∧ WkI n f S' ∧ invc f S'.row < m ∧
    done ++ goF f high m S'.row S'.now = goF f high (fuelOf S.row) S.row S.now ∧ Ts K H H' ∧ done.length + m = fuelOf S.row, ⟨fuelOf S.row, [], [], S, rfl, Ifst, .nil, wi, ?_, rfl, Ts.same (e1.trans (same_new ha)), by simp⟩, ?_⟩
  · have := invc_le f S.row
    unfold fuelOf; omega
  · rintro m σ' H' ⟨xs, done, S', rfl, I, hxs, wi', hinv, hgo, ts, hcnt⟩
    have hHa : H' a = some (.lst xs) := I.sm a _ upd_same
    have hfu : fuelOf S.row ≤ 50 := by
      have := wi.ok.len
      have h2 := Nat.mul_le_mul this this
      unfold fuelOf; omega
    have stop : (∀ p, firstO S'.ps = some p → high < p.1) → ∀ H2, Same H' H2 → sFld K (tVar 0) (tVar 1) "now" { nx := fun σ H => tRet (tVar 2) { nx := fun _ H' => Q .non H', rt := Q } σ H, rt := Q } [some (.ref W), some tv, some (.ref a)] H2 := by
      intro hst H2 e2
      have I2 := I.ex e2
      refine w_now (N := fun G' _ => G' = [.vl (.ref W), .im (nm high), .vl (.ref a)]) (R := fun _ _ => False) T (fun H wk => ev_var rfl) rfl _ H2 _ I2 (fun σ3 H3 G3 S3 hG I3 t3 => ?_) (fun _ _ _ _ z => z.elim)
      subst hG
      obtain ⟨x, h1, h2⟩ := I3.env.slot (i := 2) rfl
      cases (show x = some (V.ref a) from h2)
      have h3a : H3 a = some (.lst xs) := I3.sm a _ upd_same
      refine ⟨_, h1, k a H3 xs ha0 (fun x o hx => I3.sm x o ?_) ((ts.trans (Ts.same e2)).trans t3) h3a ?_⟩
      · rw [upd_ne (by rintro rfl; rw [hBa] at hx; cases hx)]; exact hx
      · have : goD f high S = done.map stD := by
          unfold goD
          rw [← hgo, goF_stop wi'.al hst, List.append_nil]
        rw [this]
        exact dpa_mono (stDs_noL _) ((Ts.same e2).trans t3) hxs
    cases hf : firstO S'.ps with
    | none =>
      refine (et_and (b := false) (et_test (ev_op ((ev_first T I.wk rfl).is (by rw [hf])).p ev_non.p op_isnot')) (fun z => absurd z (by decide))) _ H' I.env _ fun H2 e2 => ?_
      exact stop (fun p hp => by rw [hf] at hp; cases hp) H2 e2
    | some p =>
      have hps := szp wi' hf
      refine (et_and (et_test (ev_op ((ev_first T I.wk rfl).is (by rw [hf])).p ev_non.p op_isnot')) (fun _ => et_not (et_B (ev_is_less (szb hsz) (szb hps) (ev_var rfl).p (ev_t0 (a := nm p.1) (ds := [keyD p.2]) ((ev_first T I.wk rfl).is (by rw [hf]; rfl))).p)))) _ H' I.env _ fun H2 e2 => ?_
      have hisn : isN (optPr (some p)) = false := rfl
      rw [hisn]
      by_cases c : high < p.1
      · rw [decide_eq_true c]
        exact stop (fun p' hp => by rw [hf] at hp; cases hp; exact c) H2 e2
      · rw [decide_eq_false c]
        obtain ⟨m, rfl⟩ : ∃ m', m = m' + 1 := ⟨m - 1, by omega⟩
        obtain ⟨hl, hgs⟩ := goF_step wi'.al hf c m
        rw [hgs] at hgo
        refine ⟨fun σ3 H3 => ∃ m', m' < m + 1 ∧ ∃ xs done S', σ3 = [some (.ref W), some tv, some (.ref a)] ∧ EnvW P w K CK CW n f (upd B a (.lst xs)) W H3 σ3 [.vl (.ref W), .im (nm high), .vl (.ref a)] S' ∧ DpAll K H3 xs (done.map stD) ∧ WkI n f S' ∧ invc f S'.row < m' ∧
          done ++ goF f high m' S'.row S'.now = goF f high (fuelOf S.row) S.row S.now ∧ Ts K H H3 ∧ done.length + m' = fuelOf S.row, fun σ3 H3 z => z, ?_⟩
        have I2 := I.ex e2
        have h2a : H2 a = some (.lst xs) := e2 _ _ hHa
        obtain ⟨_, dx, lb, rb, qq, nv, zs, hW, _⟩ := id I2.wk
        refine ⟨_, rfl, .inl ⟨rfl, xs, .of h2a⟩, _, rfl, W, dx, _, rfl, hW, kf_no (by decide +kernel) (by decide +kernel) (by decide +kernel) (by decide +kernel), n, f, upd B a (.lst xs), W, S', p.1, rfl, I2.sm, I2.wk, wi', hl, fun v H3 S3 wi3 hn3 hr3 wk3 sm3 ts3 hv3 => ?_⟩
        have h3a : H3 a = some (.lst xs) := sm3 a _ upd_same
        obtain ⟨_, hdec⟩ := step_wi wi'.wi hl
        refine ⟨a, xs, v, rfl, rfl, h3a, ?_, ?_⟩
        · rw [(dpa_iff.mp hxs).1, List.length_map]
          exact small_sz (by omega)
        · have t4 := ts_lst (K := K) (o := .lst (xs ++ [v])) h3a
          have tt := ((Ts.same e2).trans ts3).trans t4
          refine ⟨m, by omega, xs ++ [v], done ++ [(p.1, S'.row.getD (atOf (tills f S'.row S'.now) p.1) 0, S'.row.getD (atOf (tills f S'.row S'.now) p.1 + 1) 0)], S3, rfl, ⟨I.env.move I.calm tt, rfl, rfl, (wk3.out (by rw [upd_same]; exact fun z => nomatch z) h3a).rebase (hup _ _), fun x o hx => ?_⟩, ?_, wi3, by rw [hr3]; omega, by rw [hn3, hr3, List.append_assoc]; exact hgo, ts.trans tt, by rw [List.length_append, List.length_singleton]; omega⟩
          · by_cases c : x = a
            · subst c; rw [upd_same] at hx ⊢; exact hx
            · rw [upd_ne c] at hx ⊢
              exact sm3 x o (by rw [upd_ne c]; exact hx)
          · rw [List.map_append]
            obtain ⟨l1, l2⟩ := dpa_iff.mp (dpa_mono (stDs_noL done) tt hxs)
            refine DqAll.dp (B := fun _ => none) (fun _ _ e => nomatch e) (DqAll.snoc (dqa_of (stDs_noL done) (dpa_mono (stDs_noL done) tt hxs)) (dq_of (stD_noL _) (dp_mono (stD_noL _) t4 hv3)))
end
end PF

-- P22
set_option linter.all false
set_option maxRecDepth 100000
set_option maxHeartbeats 4000000
namespace PF
open PySem PySem.Spec PyProof.Rows L2 LT
section
variable {P : Program} {w : World} {K : PySem.W.Frag} {mg : Str → Option Value} {base : Heap} {CK CW : Addr} {n : Nat} {f : Nat → Ln} {B B0 H H' : Hp} {W : Addr} {S : Stt} {G : List Sl} {te tl ta tb : TE} {tc : TT} {t u : TS} {σ : L2.St} {N M : List Sl → Stt → Prop} {R : PD → Stt → Prop} {d : PD} {ds : List PD}
def spKInit (P : Program) (w : World) (K : PySem.W.Frag) (CK CW : Addr) : Sp := fun vs H Q _ => ∃ (n : Nat) (f : Nat → Ln) (B : Hp) (W dx : Addr) (now : Rat) (lv tv : V), vs = [.ref W, lv, tv] ∧ Same B H ∧ B W = none ∧ H W = some (.ins CK dx []) ∧ Dp K H lv (linesD n f) ∧ Dp K H tv (nm now) ∧ SzF f ∧ n ≤ 7 ∧ Sz 600 now ∧
  ∀ H' ps, WkI n f ⟨now, order n f now, ps⟩ → WkAt P w K CK CW n f B H' W ⟨now, order n f now, ps⟩ → Same B H' → Ts K H H' → Q .non H'
abbrev s_Walk_init : Stmt := inClass (topS 54) 0
theorem sc_Walk_init : FnScope ["self", "lines", "time", "at"] ["self", "lines", "time"] (defScope s_Walk_init) := ⟨rfl, rfl, rfl, by decide +kernel, rfl, by decide +kernel, by decide +kernel⟩
theorem ok_Walk_init (D : Di K mg CK "Walk" "Walk.__init__" s_Walk_init ["self", "lines", "time"]) (T : TxtK K mg CK CW) (C_order_at : Cal P w K mg base 6 "order_at" ["lines", "time"] (SpO K R_order_at)) (M_Waiting : CalN P w K mg base 1 CW "Waiting" ["self"] (spWInit P w K CW))
    (C_Walk_keep : CalM P w K mg base 21 CK "keep" ["self", "at"] (spMut P w K CK CW preKeep)) : CalN P w K mg base 22 CK "Walk" ["self", "lines", "time"] (spKInit P w K CK CW) := by
  refine CalN.of D sc_Walk_init (fun vs H Q E h => by obtain ⟨n, f, B, W, dx, now, lv, tv, rfl, _⟩ := h; rfl) (fun f cdv A outer s H vs Q E hr h => ?_)
  obtain ⟨n, f, B, W, dx, now, lv, tv, rfl, sm, hB, hW, hlv, htv, hf, hn, hsz, k⟩ := h
  refine ⟨_, (pss_cons (ps_fld (pv 0) (pe_callTy call_list_of (by rfl) T.z_list boot_list (pa_cons (pv 1) pa_nil)) rfl)
      (pss_cons (ps_fld (pv 0) (pv 2) rfl)
      (pss_cons (ps_fld (pv 0) (pe_cal C_order_at (hr.mono (by omega)) (by rfl) (pa_cons (pe_fld (pv 0) rfl) (pa_cons (pv 2) pa_nil))) rfl)
      (pss_cons (ps_fld (pv 0) (pe_mk0 M_Waiting (hr.mono (by omega)) (by rfl)) rfl)
      (pss_one (ps_for PassesOwn.never rfl (pi_range1 (by rfl) T.z_range (pa_cons (pe_callB call_len_seq (by rfl) T.z_len boot_len (pa_cons (pe_fld (pv 0) rfl) pa_nil)) pa_nil)) (pg_name (i := 3) sc_Walk_init.nd rfl (.inl rfl)) (pss_one (ps_expr (pe_mcal T.cl_Walk C_Walk_keep (hr.mono (by omega)) (pv 0) (pa_cons (pv 3) pa_nil)))))))))), ?_⟩
  have I0 : Env K H H _ _ := env_self (K := K) (H := H) (q := W) (n := 1) (DpAll.cons hlv (.cons htv .nil))
  unfold tSeq sFld
  -- self.lines = list(lines)
  refine (eo_list (ev_var rfl).p) _ H I0 _ fun lb H1 xs hlb0 e1 hlb hxs => ?_
  have hW1 := e1 _ _ hW
  have nlb : lb ≠ W := by rintro rfl; rw [hlb0] at hW; cases hW
  refine ⟨_, rfl, W, CK, dx, [], rfl, hW1, T.cl_Walk, T.nL, (by decide), ?_⟩
  -- self.now = time
  refine ⟨tv, rfl, _, rfl, W, CK, dx, _, rfl, upd_same, T.cl_Walk, T.nN, (by show 1 < 1000; decide), ?_⟩
  have eu : upd (upd H1 W (.ins CK dx (putF "lines" (.ref lb) []))) W (.ins CK dx (putF "now" tv (putF "lines" (.ref lb) []))) = upd H1 W (.ins CK dx ([("lines", V.ref lb), ("now", tv)] : List (Str × V))) := by
    rw [upd_upd, kf_1, kf_2]
  rw [eu]
  generalize hH2 : upd H1 W (.ins CK dx ([("lines", V.ref lb), ("now", tv)] : List (Str × V))) = H2
  have t2 : Ts K H H2 := by rw [← hH2]; exact (Ts.same e1).trans (Ts.ins hW1)
  have hW2 : H2 W = some (.ins CK dx ([("lines", V.ref lb), ("now", tv)] : List (Str × V))) := by rw [← hH2]; exact upd_same
  have hl2 : H2 lb = some (.lst xs) := by rw [← hH2, upd_ne nlb]; exact hlb
  have sm2 : Same B H2 := by rw [← hH2]; exact same_upd (sm.trans e1) hB
  have hxs2 : DpAll K H2 xs ((List.range n).map fun i => lnD (f i)) := by rw [← hH2]; exact dpa_mono (lines_noL n f) (Ts.ins hW1) hxs
  have htv2 : Dp K H2 tv (nm now) := dp_mono (nm_noL _) t2 htv
  have I2 : Env K H2 H2 [some (.ref W), some lv, some tv, none] [.vl (.ref W), .no, .im (nm now), .no] := by
    have := (env_self (K := K) (H := H2) (q := W) (n := 1) (DpAll.cons htv2 (.cons htv2 .nil))).set_no 1 (some lv)
    exact this
  -- self.row = order_at(self.lines, time)
  refine (eo_order_at hf hsz (Nat.le_trans hn (by decide)) (ep_fld (d := linesD n f) (fs := ([("lines", V.ref lb), ("now", tv)] : List (Str × V))) (v := .ref lb) rfl hW2 T.cl_Walk T.nL (by simp [List.lookup]) (.lst (.of hl2) hxs2)) (ev_var rfl).p) _ H2 I2 _ fun rb H3 ys hrb0 e3 hrb hys => ?_
  have hys' := row_of hys
  subst hys'
  have hW3 := e3 _ _ hW2
  have nrb : rb ≠ W := by rintro rfl; rw [hrb0] at hW2; cases hW2
  have nrl : lb ≠ rb := by rintro rfl; rw [hrb0] at hl2; cases hl2
  refine ⟨_, rfl, W, CK, dx, _, rfl, hW3, T.cl_Walk, T.nR, (by show 2 < 1000; decide), ?_⟩
  rw [kf_3]
  generalize hH4 : upd H3 W (.ins CK dx ([("lines", V.ref lb), ("now", tv), ("row", V.ref rb)] : List (Str × V))) = H4
  have t34 : Ts K H3 H4 := by rw [← hH4]; exact Ts.ins hW3
  have t4 : Ts K H2 H4 := (Ts.same e3).trans t34
  have hW4 : H4 W = some (.ins CK dx ([("lines", V.ref lb), ("now", tv), ("row", V.ref rb)] : List (Str × V))) := by rw [← hH4]; exact upd_same
  have hl4 : H4 lb = some (.lst xs) := by rw [← hH4, upd_ne nlb]; exact e3 _ _ hl2
  have hr4 : H4 rb = some (.lst (rowV (order n f now))) := by rw [← hH4, upd_ne nrb]; exact hrb
  have sm4 : Same B H4 := by rw [← hH4]; exact same_upd (sm2.trans e3) hB
  -- self.waits = Waiting()
  refine fun q dq hq0 hdq nqd => ?_
  have snew : Same H4 (upd (upd H4 dq (.own q)) q (.ins CW dq [])) := fun b o e => by
    rw [upd_ne (ne_of_none e hq0), upd_ne (ne_of_none e hdq)]
    exact e
  refine ⟨H4, q, dq, rfl, snew, hq0, upd_same, fun H5 wt s5 ts5 => ⟨rfl, ?_⟩⟩
  have hW5 := s5 _ _ hW4
  refine ⟨_, rfl, W, CK, dx, _, rfl, hW5, T.cl_Walk, T.nQ, (by show 3 < 1000; decide), ?_⟩
  rw [kf_4]
  have t5 : Ts K H4 H5 := Ts.same s5
  have t6 : Ts K H5 (upd H5 W (.ins CK dx (kf (.ref lb) tv (.ref rb) (.ref q)))) := Ts.ins hW5
  have tall : Ts K H2 (upd H5 W (.ins CK dx (kf (.ref lb) tv (.ref rb) (.ref q)))) := (t4.trans t5).trans t6
  have none4 : ∀ x, H4 x = none → B x = none := fun x hx => same_there sm4 x hx
  have nWq : W ≠ q := by rintro rfl; rw [hq0] at hW4; cases hW4
  have wk6 : WkAt P w K CK CW n f B (upd H5 W (.ins CK dx (kf (.ref lb) tv (.ref rb) (.ref q)))) W ⟨now, order n f now, []⟩ :=
    ⟨hB, dx, lb, rb, q, tv, xs, upd_same, same_there sm _ hlb0, same_there sm2 _ hrb0, nrl, by rw [upd_ne nlb]; exact s5 _ _ hl4, dpa_mono (lines_noL n f) tall hxs2, by rw [upd_ne nrb]; exact s5 _ _ hr4, dp_mono (nm_noL _) tall htv2, (wt.rebase none4).out nWq (fun φ z => by rw [hW5] at z; cases z) t6⟩
  have ok : ∀ ps, OkS n f ⟨now, order n f now, ps⟩ := fun ps => ⟨hf, hn, hsz, fun x hx => order_mem.mp hx, order_nodup n f now, by show (order n f now).length ≤ 7; rw [order_len]; exact hn⟩
  refine (w_forR (P := P) (w := w) (CK := CK) (CW := CW) (n := n) (f := f) (B := B) (W := W) (S := ⟨now, order n f now, []⟩) (G := [.vl (.ref W), .no, .im (nm now), .no]) (m := (order n f now).length) (N := fun _ S' => ∃ ps, S' = ⟨now, order n f now, ps⟩ ∧ WkI n f S') (R := fun _ _ => False)
    (fun H wk => eap_cons (wk_len T wk rfl).p eap_nil) (by rw [order_len]; omega) (by decide)
    (fun i G' S' => ∃ s3 ps, G' = [.vl (.ref W), .no, .im (nm now), s3] ∧ S' = ⟨now, order n f now, ps⟩ ∧ ps.Nodup ∧ ∀ e, e ∈ ps ↔ PK (fun k => i ≤ k) f (order n f now) now e) ⟨_, [], rfl, rfl, List.nodup_nil, fun e => ⟨fun z => (nomatch z), fun ⟨k, z, _⟩ => absurd (Nat.zero_le k) z⟩⟩ ?_ ?_) _ _ _ ⟨I2.move rfl tall, rfl, rfl, wk6, same_upd (sm4.trans s5) hB⟩ (fun σ' H' G' S' ⟨ps, e, i⟩ I' ts => ?_) (fun _ _ _ _ z => z.elim)
  · rintro i G' S' hi ⟨s3, ps, rfl, rfl, hnd, hps⟩
    obtain ⟨d1, d2⟩ := keep_pk (S := fun k => i + 1 ≤ k) (at_ := (i : Int)) (ok ps).nd (fun k hk => by omega) (fun e => (hps e).trans (pk_congr (fun k => by omega) e))
    have hlen := pk_len (fun e he => (hps e).mp he) hnd
    exact w_call (Pre := preKeep) (fun H wk => (ev_var rfl).p) ⟨ok ps, d1, Nat.le_trans hlen (ok ps).len, rfl⟩ ⟨_, _, rfl, rfl, keepP_nodup d1 hnd, d2⟩
  · rintro G' S' ⟨s3, ps, rfl, rfl, hnd, hps⟩
    refine ⟨ps, rfl, ok ps, wi_start n f now, fun e => (hps e).trans ⟨fun ⟨k, a, b, c⟩ => ⟨k, fun z => z, b, c⟩, fun ⟨k, a, b, c⟩ => ⟨k, fun z => ?_, b, c⟩⟩, hnd⟩
    have b' : k + 1 < (order n f now).length := b
    omega
  · subst e
    exact k H' ps i I'.wk I'.sm ((t2.trans tall).trans ts)
end
end PF

-- P23
set_option linter.all false
set_option maxRecDepth 100000
set_option maxHeartbeats 4000000
namespace PF
open PySem PySem.Spec PyProof.Rows L2 LT
section
variable {P : Program} {w : World} {K : PySem.W.Frag} {mg : Str → Option Value} {base : Heap} {B : Hp} {G : List Sl} {te ta tb tt : TE}
def R_lowest (ds : List PD) (d : PD) : Prop := ∃ i j : Int, j ≠ 0 ∧ j.natAbs < 2 ^ 8000 ∧ ds = [.int i, .int j] ∧ d = nm (Rat.divInt i j)
abbrev s__law_lowest : Stmt := topS 58
theorem sc__law_lowest : FnScope ["_law_top", "_law_bottom", "_law_one", "_law_other"] ["_law_top", "_law_bottom"] (defScope s__law_lowest) := ⟨rfl, rfl, rfl, by decide +kernel, rfl, by decide +kernel, by decide +kernel⟩
theorem ok__law_lowest (D : Df K mg "_law_lowest" s__law_lowest ["_law_top", "_law_bottom"]) (T : Txt mg) : Cal P w K mg base 1 "_law_lowest" ["_law_top", "_law_bottom"] (SpI K R_lowest) := by
  refine Cal.ofI D sc__law_lowest (by decide) (fun ds d h => by obtain ⟨i, j, _, _, rfl, _⟩ := h; rfl) (fun f cdv A outer s H E hr ds d h => ?_)
  obtain ⟨i, j, hj, hz, rfl, rfl⟩ := h
  refine ⟨_, (pss_cons (ps_set (i := 2) sc__law_lowest.nd rfl (.inl rfl) (pe_callB call_abs (by rfl) T.z_abs boot_abs (pa_cons (pv 0) pa_nil)))
      (pss_cons (ps_set (i := 3) sc__law_lowest.nd rfl (.inl rfl) (pe_callB call_abs (by rfl) T.z_abs boot_abs (pa_cons (pv 1) pa_nil)))
      (pss_cons (ps_while PassesOwn.never (pt_cmpR op_gt (pv 3) pe_int (nomark _)) (pss_one (ps_par (i := 2) (j := 3) (by rfl) sc__law_lowest.nd rfl rfl (by decide) rfl rfl (pa_cons (pv 3) (pa_cons (pe_op op_mdN (pv 2) (pv 3)) pa_nil)) (by rfl))))
      (pss_cons (ps_if (pt_cmpR op_lt (pv 1) pe_int (nomark _)) (pss_one (ps_set (i := 2) sc__law_lowest.nd rfl (.inl rfl) (pe_op op_sub pe_int (pv 2)))) pss_nil)
      (pss_one (ps_ret (pe_tup (pa_cons (pe_op op_fdN (pv 0) (pv 2)) (pa_cons (pe_op op_fdN (pv 1) (pv 2)) pa_nil))))))))), ?_⟩
  refine s_seq (s_set (ev_abs (ev_var rfl).p) (s_seq (s_set (ev_abs (ev_var rfl).p) (s_seqM (M := fun G => G = [.im (.int i), .im (.int j), .im (.int (Nat.gcd i.natAbs j.natAbs : Nat)), .im (.int 0)])
    (s_while (fun m G => ∃ a : Nat, Nat.gcd a m = Nat.gcd i.natAbs j.natAbs ∧ G = [.im (.int i), .im (.int j), .im (.int a), .im (.int m)]) j.natAbs ⟨i.natAbs, rfl, by rw [abs_if, abs_if]; rfl⟩ ?_) ?_))))
  · rintro m G ⟨a, hg, rfl⟩
    refine ⟨_, et_test (ev_op (ev_var rfl).p ev_int.p op_ib), fun hb => ?_, fun hb => ?_⟩
    · have hm : (0 : Int) < m := of_decide_eq_true hb
      refine s_par (ea_cons (ev_var rfl) (ea_cons (ev_op (ev_var rfl).p (ev_var rfl).p (op_iC hm)) ea_nil)) ⟨a % m, Nat.mod_lt _ (by omega), m, ?_, ?_⟩
      · rw [← hg, Nat.gcd_comm a m, Nat.gcd_rec m a, Nat.gcd_comm]
      · rw [← Int.natCast_emod]; rfl
    · have hm : ¬ (0 : Int) < m := of_decide_eq_false hb
      have : m = 0 := by omega
      subst this
      rw [← hg, Nat.gcd_zero_right]; rfl
  · rintro G rfl
    have fin : ∀ e : Int, e = (if j < 0 then 0 - (Nat.gcd i.natAbs j.natAbs : Int) else (Nat.gcd i.natAbs j.natAbs : Int)) → St K H (tRet (tTup (tCons (tOp (rI CDN fun i j => .int (i.fdiv j)) (tVar 0) (tVar 2)) (tCons (tOp (rI CDN fun i j => .int (i.fdiv j)) (tVar 1) (tVar 2)) tNil)))) [.im (.int i), .im (.int j), .im (.int e), .im (.int 0)] (fun _ => False) (fun r => r = .im (nm (Rat.divInt i j))) := by
      intro e he
      have hd : e.natAbs = Nat.gcd i.natAbs j.natAbs := by rw [he]; split <;> omega
      refine s_ret (ev_tup (ea_cons (ev_op (ev_var rfl).p (ev_var rfl).p (op_iC (gcd_ok hj hz hd _))) (ea_cons (ev_op (ev_var rfl).p (ev_var rfl).p (op_iC (gcd_ok hj hz hd _))) ea_nil))) ?_
      obtain ⟨p1, p2⟩ := divInt_parts (t := i) hj
      rw [← he] at p1 p2
      unfold nm
      rw [p1, p2]
    by_cases hneg : j < 0
    · refine s_seq (s_if (et_test (ev_op (ev_var rfl).p ev_int.p op_ib)) (fun _ => s_set (ev_op ev_int.p (ev_var rfl).p op_i0) ?_) (fun z => absurd hneg (of_decide_eq_false z)))
      exact fin _ (by rw [if_pos hneg])
    · refine s_seq (s_if (et_test (ev_op (ev_var rfl).p ev_int.p op_ib)) (fun z => absurd (of_decide_eq_true z) hneg) (fun _ => s_next ?_))
      exact fin _ (by rw [if_neg hneg])
theorem ev_lowest {i j : Int} (hj : j ≠ 0) (hz : j.natAbs < 2 ^ 8000) (h : EvP K B ta G (.int i)) (h' : EvP K B tb G (.int j)) : Ev K B (tCall (SpI K R_lowest) [] E0 (tCons ta (tCons tb tNil))) G (nm (Rat.divInt i j)) := ev_call (eap_cons h (eap_cons h' eap_nil)) ⟨i, j, hj, hz, rfl, rfl⟩ rfl
def plusD (a b : Rat) (s : Int) : Rat := if s = 1 then a + b else a - b
def R_plus (ds : List PD) (d : PD) : Prop := ∃ (a b : Rat) (s : Int), SzB a ∧ SzB b ∧ (s = 1 ∨ s = -1) ∧ ds = [nm a, nm b, .int s] ∧ d = nm (plusD a b s)
abbrev s__law_plus : Stmt := topS 59
theorem sc__law_plus : FnScope ["_law_a", "_law_b", "_law_sign"] ["_law_a", "_law_b", "_law_sign"] (defScope s__law_plus) := ⟨rfl, rfl, rfl, by decide +kernel, rfl, by decide +kernel, by decide +kernel⟩
theorem ok__law_plus (D : Df K mg "_law_plus" s__law_plus ["_law_a", "_law_b", "_law_sign"]) (C__law_lowest : Cal P w K mg base 1 "_law_lowest" ["_law_top", "_law_bottom"] (SpI K R_lowest)) : Cal P w K mg base 2 "_law_plus" ["_law_a", "_law_b", "_law_sign"] (SpI K R_plus) := by
  refine Cal.ofI D sc__law_plus (by decide) (fun ds d h => by obtain ⟨a, b, s, _, _, _, rfl, _⟩ := h; rfl) (fun f cdv A outer s H E hr ds d h => ?_)
  obtain ⟨a, b, s, ha, hb, hs, rfl, rfl⟩ := h
  refine ⟨_, (pss_one (ps_ret (pe_cal C__law_lowest (hr.mono (by omega)) (by rfl) (pa_cons (pe_op op_add (pe_op op_mulW (pe_ix (ix_tupK (K := K) rfl) (pv 0) pe_int (fun _ _ => rfl)) (pe_ix (ix_tupK (K := K) rfl) (pv 1) pe_int (fun _ _ => rfl))) (pe_op op_mulW (pe_op op_mulW (pv 2) (pe_ix (ix_tupK (K := K) rfl) (pv 1) pe_int (fun _ _ => rfl))) (pe_ix (ix_tupK (K := K) rfl) (pv 0) pe_int (fun _ _ => rfl)))) (pa_cons (pe_op op_mulW (pe_ix (ix_tupK (K := K) rfl) (pv 0) pe_int (fun _ _ => rfl)) (pe_ix (ix_tupK (K := K) rfl) (pv 1) pe_int (fun _ _ => rfl))) pa_nil))))), ?_⟩
  have h1 : (s : Int).natAbs < 2 ^ 2000 := by
    have : s.natAbs = 1 := by omega
    rw [this]; exact Nat.one_lt_two_pow (by decide)
  have h2 : (s * b.num).natAbs < 2 ^ 2000 := by
    rw [Int.natAbs_mul]
    have : s.natAbs = 1 := by omega
    rw [this, Nat.one_mul]; exact hb.1
  refine s_ret ((ev_lowest (den_nz2 a b) (den_big ha hb) (ev_op (ev_mulW (ev_num (ev_var rfl)) (ev_den (ev_var rfl)) ha.1 (den_lt hb)).p (ev_mulW (ev_mulW (ev_var rfl) (ev_num (ev_var rfl)) h1 hb.1) (ev_den (ev_var rfl)) h2 (den_lt ha)).p op_i0).p (ev_mulW (ev_den (ev_var rfl)) (ev_den (ev_var rfl)) (den_lt ha) (den_lt hb)).p).is ?_) rfl
  unfold plusD
  rcases hs with rfl | rfl
  · rw [if_pos rfl, add_parts, Int.one_mul]
  · rw [if_neg (by decide), sub_parts]
    congr 2
    rw [show (-1 : Int) * b.num = -b.num by omega, Int.neg_mul]
    rfl
theorem ev_plus {a b : Rat} (ha : SzB a) (hb : SzB b) (h : EvP K B ta G (nm a)) (h' : EvP K B tb G (nm b)) (h3 : EvP K B tt G (.int 1)) : Ev K B (tCall (SpI K R_plus) [] E0 (tCons ta (tCons tb (tCons tt tNil)))) G (nm (a + b)) := ev_call (eap_cons h (eap_cons h' (eap_cons h3 eap_nil))) ⟨a, b, 1, ha, hb, .inl rfl, rfl, by unfold plusD; rw [if_pos rfl]⟩ rfl
theorem ev_minus {a b : Rat} (ha : SzB a) (hb : SzB b) (h : EvP K B ta G (nm a)) (h' : EvP K B tb G (nm b)) (h3 : EvP K B tt G (.int (-1))) : Ev K B (tCall (SpI K R_plus) [] E0 (tCons ta (tCons tb (tCons tt tNil)))) G (nm (a - b)) := ev_call (eap_cons h (eap_cons h' (eap_cons h3 eap_nil))) ⟨a, b, -1, ha, hb, .inr rfl, rfl, by unfold plusD; rw [if_neg (by decide)]⟩ rfl
def R_times (ds : List PD) (d : PD) : Prop := ∃ (a b : Rat), SzB a ∧ SzB b ∧ ds = [nm a, nm b] ∧ d = nm (a * b)
abbrev s__law_times : Stmt := topS 60
theorem sc__law_times : FnScope ["_law_a", "_law_b"] ["_law_a", "_law_b"] (defScope s__law_times) := ⟨rfl, rfl, rfl, by decide +kernel, rfl, by decide +kernel, by decide +kernel⟩
theorem ok__law_times (D : Df K mg "_law_times" s__law_times ["_law_a", "_law_b"]) (C__law_lowest : Cal P w K mg base 1 "_law_lowest" ["_law_top", "_law_bottom"] (SpI K R_lowest)) : Cal P w K mg base 2 "_law_times" ["_law_a", "_law_b"] (SpI K R_times) := by
  refine Cal.ofI D sc__law_times (by decide) (fun ds d h => by obtain ⟨a, b, _, _, rfl, _⟩ := h; rfl) (fun f cdv A outer s H E hr ds d h => ?_)
  obtain ⟨a, b, ha, hb, rfl, rfl⟩ := h
  refine ⟨_, (pss_one (ps_ret (pe_cal C__law_lowest (hr.mono (by omega)) (by rfl) (pa_cons (pe_op op_mulW (pe_ix (ix_tupK (K := K) rfl) (pv 0) pe_int (fun _ _ => rfl)) (pe_ix (ix_tupK (K := K) rfl) (pv 1) pe_int (fun _ _ => rfl))) (pa_cons (pe_op op_mulW (pe_ix (ix_tupK (K := K) rfl) (pv 0) pe_int (fun _ _ => rfl)) (pe_ix (ix_tupK (K := K) rfl) (pv 1) pe_int (fun _ _ => rfl))) pa_nil))))), ?_⟩
  refine s_ret ((ev_lowest (den_nz2 a b) (den_big ha hb) (ev_mulW (ev_num (ev_var rfl)) (ev_num (ev_var rfl)) ha.1 hb.1).p (ev_mulW (ev_den (ev_var rfl)) (ev_den (ev_var rfl)) (den_lt ha) (den_lt hb)).p).is ?_) rfl
  rw [mul_parts]
theorem ev_times {a b : Rat} (ha : SzB a) (hb : SzB b) (h : EvP K B ta G (nm a)) (h' : EvP K B tb G (nm b)) : Ev K B (tCall (SpI K R_times) [] E0 (tCons ta (tCons tb tNil))) G (nm (a * b)) := ev_call (eap_cons h (eap_cons h' eap_nil)) ⟨a, b, ha, hb, rfl, rfl⟩ rfl
/-! sent, later -/
def R_sent (ds : List PD) (d : PD) : Prop := ∃ (l m : Ln) (t : Rat), Sz 40 l.1 ∧ Sz 10 l.2 ∧ Sz 10 m.1 ∧ Sz 10 m.2 ∧ Sz 10 t ∧ ds = [lnD l, lnD m, nm t] ∧ d = lnD (sent m t l)
abbrev s__law_sent : Stmt := topS 64
theorem sc__law_sent : FnScope ["_law_line", "_law_more", "_law_late", "_law_slope"] ["_law_line", "_law_more", "_law_late"] (defScope s__law_sent) := ⟨rfl, rfl, rfl, by decide +kernel, rfl, by decide +kernel, by decide +kernel⟩
theorem ok__law_sent (D : Df K mg "_law_sent" s__law_sent ["_law_line", "_law_more", "_law_late"]) (C__law_plus : Cal P w K mg base 2 "_law_plus" ["_law_a", "_law_b", "_law_sign"] (SpI K R_plus)) (C__law_times : Cal P w K mg base 2 "_law_times" ["_law_a", "_law_b"] (SpI K R_times)) :
    Cal P w K mg base 3 "_law_sent" ["_law_line", "_law_more", "_law_late"] (SpI K R_sent) := by
  refine Cal.ofI D sc__law_sent (by decide) (fun ds d h => by obtain ⟨l, m, t, _, _, _, _, _, rfl, _⟩ := h; rfl) (fun f cdv A outer s H E hr ds d h => ?_)
  obtain ⟨l, m, t, h1, h2, h3, h4, h5, rfl, rfl⟩ := h
  refine ⟨_, (pss_cons (ps_set (i := 3) sc__law_sent.nd rfl (.inl rfl) (pe_cal C__law_plus (hr.mono (by omega)) (by rfl) (pa_cons (pe_ix (ix_tupK (K := K) rfl) (pv 0) pe_int (fun _ _ => rfl)) (pa_cons (pe_ix (ix_tupK (K := K) rfl) (pv 1) pe_int (fun _ _ => rfl)) (pa_cons pe_int pa_nil)))))
      (pss_one (ps_ret (pe_tup (pa_cons (pe_cal C__law_plus (hr.mono (by omega)) (by rfl) (pa_cons (pe_cal C__law_plus (hr.mono (by omega)) (by rfl) (pa_cons (pe_ix (ix_tupK (K := K) rfl) (pv 0) pe_int (fun _ _ => rfl)) (pa_cons (pe_ix (ix_tupK (K := K) rfl) (pv 1) pe_int (fun _ _ => rfl)) (pa_cons pe_int pa_nil)))) (pa_cons (pe_cal C__law_times (hr.mono (by omega)) (by rfl) (pa_cons (pv 3) (pa_cons (pv 2) pa_nil))) (pa_cons (pe_un un_neg pe_int) pa_nil)))) (pa_cons (pv 3) pa_nil)))))), ?_⟩
  have s1 := sz_add h2 h4
  refine s_seq (s_set (ev_plus (szb h2) (szb h4) (ev_sl (ev_var rfl)).p (ev_sl (ev_var rfl)).p ev_int.p) (s_ret (ev_tup (ea_cons (ev_minus (szb (sz_add h1 h3)) (szb (sz_mul s1 h5)) (ev_plus (szb h1) (szb h3) (ev_st (ev_var rfl)).p (ev_st (ev_var rfl)).p ev_int.p).p (ev_times (szb s1) (szb h5) (ev_var rfl).p (ev_var rfl).p).p (ev_un_neg ev_int)) (ea_cons (ev_var rfl) ea_nil))) ?_))
  rfl
theorem ev_sent {l m : Ln} {t : Rat} (h1 : Sz 40 l.1) (h2 : Sz 10 l.2) (h3 : Sz 10 m.1) (h4 : Sz 10 m.2) (h5 : Sz 10 t) (g1 : EvP K B ta G (lnD l)) (g2 : EvP K B tb G (lnD m)) (g3 : EvP K B tt G (nm t)) : Ev K B (tCall (SpI K R_sent) [] E0 (tCons ta (tCons tb (tCons tt tNil)))) G (lnD (sent m t l)) := ev_call (eap_cons g1 (eap_cons g2 (eap_cons g3 eap_nil))) ⟨l, m, t, h1, h2, h3, h4, h5, rfl, rfl⟩ rfl
def R_later (ds : List PD) (d : PD) : Prop := ∃ (o : Option Rat) (t : Rat), (∀ x, o = some x → Sz 600 x) ∧ Sz 10 t ∧ ds = [optD o, nm t] ∧ d = optD (o.map (· + t))
abbrev s__law_later : Stmt := topS 65
theorem sc__law_later : FnScope ["_law_time", "_law_late"] ["_law_time", "_law_late"] (defScope s__law_later) := ⟨rfl, rfl, rfl, by decide +kernel, rfl, by decide +kernel, by decide +kernel⟩
theorem ok__law_later (D : Df K mg "_law_later" s__law_later ["_law_time", "_law_late"]) (C__law_plus : Cal P w K mg base 2 "_law_plus" ["_law_a", "_law_b", "_law_sign"] (SpI K R_plus)) : Cal P w K mg base 3 "_law_later" ["_law_time", "_law_late"] (SpI K R_later) := by
  refine Cal.ofI D sc__law_later (by decide) (fun ds d h => by obtain ⟨o, t, _, _, rfl, _⟩ := h; rfl) (fun f cdv A outer s H E hr ds d h => ?_)
  obtain ⟨o, t, h1, h2, rfl, rfl⟩ := h
  refine ⟨_, (pss_cons (ps_if (pt_cmpR op_isN (pv 0) pe_non (nomark _)) (pss_one (ps_ret pe_non)) pss_nil)
      (pss_one (ps_ret (pe_cal C__law_plus (hr.mono (by omega)) (by rfl) (pa_cons (pv 0) (pa_cons (pv 1) (pa_cons pe_int pa_nil))))))), ?_⟩
  cases o with
  | none => exact s_seq (s_if (b := true) (et_test ((ev_op (ev_var rfl).p ev_non.p op_is').is rfl)) (fun _ => s_ret ev_non rfl) (fun z => nomatch z))
  | some x => exact s_seq (s_if (b := false) (et_test ((ev_op (ev_var rfl).p ev_non.p op_is').is rfl)) (fun z => nomatch z) (fun _ => s_next (s_ret (ev_plus (szb (h1 x rfl)) (szb h2) (ev_var rfl).p (ev_var rfl).p ev_int.p) rfl)))
theorem ev_later {o : Option Rat} {t : Rat} (h1 : ∀ x, o = some x → Sz 600 x) (h2 : Sz 10 t) (g1 : EvP K B ta G (optD o)) (g2 : EvP K B tb G (nm t)) : Ev K B (tCall (SpI K R_later) [] E0 (tCons ta (tCons tb tNil))) G (optD (o.map (· + t))) := ev_call (eap_cons g1 (eap_cons g2 eap_nil)) ⟨o, t, h1, h2, rfl, rfl⟩ (optD_noL _)
end
end PF

-- P24
set_option linter.all false
set_option maxRecDepth 100000
set_option maxHeartbeats 4000000
namespace PF
open PySem PySem.Spec PyProof.Rows L2 LT
/-! ### sizes, bounds -/
theorem rowFrom_sz {n : Nat} {f : Nat → Ln} (hf : SzF f) : ∀ (k : Nat) (p : Nat × Option Rat), Leads n f p → (∀ x, p.2 = some x → Sz 402 x) → ∀ q ∈ rowFrom n f k p, q.1 < n ∧ ∀ x, q.2 = some x → Sz 402 x
  | 0, p, hl, hp, q, hq => by
    have : q = p := by simpa [rowFrom] using hq
    subst this; exact ⟨hl.1, hp⟩
  | k + 1, p, hl, hp, q, hq => by
    unfold rowFrom at hq
    split at hq
    · have : q = p := by simpa using hq
      subst this; exact ⟨hl.1, hp⟩
    · rename_i hne
      rcases List.mem_cons.mp hq with rfl | hq
      · exact ⟨hl.1, hp⟩
      · exact rowFrom_sz hf k _ (next_leads hl) (fun x hx => by cases hx; exact passed_sz hf _ (earliest_spec hne).1) q hq
theorem leaders_sz {n : Nat} {f : Nat → Ln} (hf : SzF f) : ∀ q ∈ leaders n f, q.1 < n ∧ ∀ x, q.2 = some x → Sz 402 x := by
  unfold leaders
  split
  · intro q hq; cases hq
  · rename_i h0
    exact rowFrom_sz hf n _ (firstL_spec n f (by omega)) (fun x hx => nomatch hx)
theorem rankRow_sz {n : Nat} {f : Nat → Ln} {k : Nat} (hf : SzF f) : ∀ q ∈ rankRow n f k, ∀ x, q.2 = some x → Sz 402 x := by
  unfold rankRow
  split
  · intro q hq; cases hq
  · have key : ∀ (ts : List Rat) (row : List (Nat × Option Rat)), (∀ t ∈ ts, Sz 402 t) → (∀ q ∈ row, ∀ x, q.2 = some x → Sz 402 x) → ∀ q ∈ ts.foldl (rankStep n f k) row, ∀ x, q.2 = some x → Sz 402 x := by
      intro ts
      induction ts with
      | nil => intro row _ h; exact h
      | cons t ts ih =>
        intro row ht h
        refine ih _ (fun u hu => ht u (List.mem_cons_of_mem _ hu)) ?_
        unfold rankStep
        split
        · exact h
        · intro q hq x hx
          rcases List.mem_append.mp hq with z | z
          · exact h q z x hx
          · have : q = ((order n f t).getD k 0, some t) := by simpa using z
            subst this
            cases hx
            exact ht t List.mem_cons_self
    refine key _ _ (changeTimes_sz hf) ?_
    intro q hq x hx
    have : q = ((order n f (before (changeTimes n f))).getD k 0, none) := by simpa using hq
    subst this
    cases hx
theorem getD_lt {row : List Nat} {n i : Nat} (h : ∀ x ∈ row, x < n) (h0 : 0 < n) : row.getD i 0 < n := by
  by_cases c : i < row.length
  · exact h _ (mem_getD c)
  · unfold List.getD
    rw [List.getElem?_eq_none (by omega)]
    exact h0
theorem cover_lt {n : Nat} {f : Nat → Ln} {x a b : Nat} (hf : SzF f) (hx : x < n) (h : cover n f x = some (a, b)) : a < n ∧ b < n := by
  unfold cover at h
  simp only at h
  have hm : ∀ y ∈ (leaders n f).map (·.1), y < n := fun y hy => by
    obtain ⟨q, hq, rfl⟩ := List.mem_map.mp hy
    exact (leaders_sz hf q hq).1
  split at h
  · cases h
  · have e := Option.some.inj h
    have e1 := congrArg Prod.fst e
    have e2 := congrArg Prod.snd e
    simp only at e1 e2
    rw [← e1, ← e2]
    exact ⟨getD_lt hm (by omega), getD_lt hm (by omega)⟩
theorem changes_sz {n : Nat} {f : Nat → Ln} {low high : Rat} (hf : SzF f) : ∀ c ∈ LT.changes n f low high, Sz 402 c.1 := fun c hc => ((chAll_bd (n := n) hf (low := some low) (high := some high) n).2 c hc).2
theorem goF_sz {f : Nat → Ln} {high : Rat} (hf : SzF f) : ∀ (k : Nat) (row : List Nat) (now : Rat), Sz 600 now → ∀ s ∈ goF f high k row now, Sz 600 s.1
  | 0, _, _, _, s, hs => nomatch hs
  | k + 1, row, now, hz, s, hs => by
    unfold goF at hs
    cases hl : leastO (tills f row now) with
    | none => rw [hl] at hs; cases hs
    | some T =>
      rw [hl] at hs
      obtain ⟨j, _, e⟩ := mem_tills.mp ((leastO_spec (tills f row now)).1 T hl).1
      have hT := meet_600 hf hz e
      simp only at hs
      split at hs
      · cases hs
      · rcases List.mem_cons.mp hs with rfl | hs
        · exact hT
        · exact goF_sz hf k _ T hT s hs
theorem goF_len {f : Nat → Ln} {high : Rat} : ∀ (k : Nat) (row : List Nat) (now : Rat), (goF f high k row now).length ≤ k
  | 0, _, _ => Nat.le_refl _
  | k + 1, row, now => by
    unfold goF
    cases leastO (tills f row now) with
    | none => exact Nat.zero_le _
    | some T =>
      simp only
      split
      · exact Nat.zero_le _
      · have := goF_len (f := f) (high := high) k (swapAt row (atOf (tills f row now) T)) T
        simp only [List.length_cons]; omega
theorem papers_sz {n : Nat} {f : Nat → Ln} {t : Rat} (hf : SzF f) : ∀ p ∈ papersAt n f t, ∀ x, p.2.2 = some x → Sz 402 x := fun p hp x hx => by
  unfold papersAt at hp
  obtain ⟨q, _, rfl⟩ := List.mem_map.mp hp
  simp only at hx
  unfold nextC at hx
  split at hx
  · rename_i c
    cases hx
    exact meet_sz (hf _) (hf _) c.1
  · cases hx
theorem shp_bool (b : Bool) : Shp 0 (.bool b) := ⟨by simp only [PyData.canLay0], by simp [PyData.depth]⟩
theorem shp_st (s : Rat × Nat × Nat) : Shp 2 (stD s) := shp_trip (shp_nm _) (shp_mono (shp_int _) (by decide)) (shp_mono (shp_int _) (by decide))
section
variable {P : Program} {w : World} {K : PySem.W.Frag} {mg : Str → Option Value} {base : Heap} {B : Hp} {G : List Sl} {te tl ta tb tt : TE} {d : PD} {u : TS}
theorem s_setP {i : Nat} {x : PD} (h : EvP K B te G d) (hx : noL x = true) (k : ∀ B', Same B B' → St K B' u ((frz G).set i (.im d)) (fun _ => False) (fun r => r = .im x)) : St K B (tSeq (tAsg te (gName i)) u) G (fun _ => False) (fun r => r = .im x) := fun σ H D I q r =>
  h σ H I _ fun v H1 e1 hv => (k H1 (I.sm.trans e1)) _ H1 D ((I.ex e1).frz.set_im i (.base hv)) (fun _ _ _ z => z.elim) ⟨fun d v H' e s g => by cases e; exact r.im x v H' rfl ((I.sm.trans e1).trans s) (dq_of hx (g.dp s)), fun _ _ _ _ e => (by cases e)⟩
/-- the rows, a time later -/
theorem eo_lat {l : List (Nat × Option Rat)} {t : Rat} {i j : Nat} (hl : EvP K B tl G (.list (l.map rowD))) (hn : l.length ≤ 30000) (hs : ∀ q ∈ l, ∀ x, q.2 = some x → Sz 402 x) (ht : Sz 10 t) (hij : i ≠ j) (hij' : i < j)
    (hlate : ∀ B' (a b : PD), EvP K B' tt (((wipeS (frz G) [i, j]).set i (.im a)).set j (.im b)) (nm t)) (hi : i < G.length) (hj : j < G.length) :
    EvO K B (tLc (iList K tl) (gTup K 2 (gCons (gName i) (gCons (gName j) gNil))) tYes (tTup (tCons (tVar i) (tCons (tCall (SpI K R_later) [] E0 (tCons (tVar j) (tCons tt tNil))) tNil))) [i, j]) G ((l.map (later t)).map rowD) := by
  have hw : (wipeS (frz G) [i, j]).length = G.length := by
    unfold wipeS wipeS wipeS frz
    simp
  refine eo_lc hl (big_sz (by rw [List.length_map]; exact hn)) (by simp) (fun B' k d e hd he => ?_)
  rw [List.getElem?_map] at hd
  obtain ⟨p, hp, rfl⟩ := Option.map_eq_some_iff.mp hd
  rw [List.map_map, List.getElem?_map, hp] at he
  cases he
  refine ⟨_, tg_pair (i := i) (j := j) (by simp) (by simp), ev_tup (ea_cons (ev_var ?_) (ea_cons (ev_later (fun x hx => sz_mono (hs p (List.mem_of_getElem? hp) x hx) (by decide)) ht (ev_var ?_).p (hlate B' _ _)) ea_nil))⟩
  · rw [List.getElem?_set_ne (by omega), List.getElem?_set_self (by rw [hw]; exact hi)]
    rfl
  · rw [List.getElem?_set_self (by rw [List.length_set, hw]; exact hj)]
/-! rows_alike -/
def R_rows_alike (ds : List PD) (d : PD) : Prop := ∃ (n : Nat) (f : Nat → Ln) (m : Ln) (t : Rat), SzF f ∧ SzF (fun i => sent m t (f i)) ∧ n ≤ 100 ∧ Sz 10 t ∧ ds = [linesD n f, linesD n (fun i => sent m t (f i)), nm t] ∧ d = .bool true
theorem leaders_n (n : Nat) (f : Nat → Ln) : (leaders n f).length ≤ n + 1 := leaders_len n f
theorem rankStep_len (n : Nat) (f : Nat → Ln) (k : Nat) : ∀ (ts : List Rat) (row : List (Nat × Option Rat)), (ts.foldl (rankStep n f k) row).length ≤ row.length + ts.length
  | [], row => Nat.le_refl _
  | t :: ts, row => by
    have ih := rankStep_len n f k ts (rankStep n f k row t)
    have : (rankStep n f k row t).length ≤ row.length + 1 := by
      unfold rankStep
      split
      · omega
      · simp
    simp only [List.foldl_cons, List.length_cons]
    omega
theorem rankRow_n {n : Nat} {f : Nat → Ln} {k : Nat} (hf : SzF f) (hn : n ≤ 100) : (rankRow n f k).length ≤ 10001 := by
  unfold rankRow
  split
  · exact Nat.zero_le _
  · have h1 := rankStep_len n f k (changeTimes n f) [((order n f (before (changeTimes n f))).getD k 0, none)]
    have h2 := changeTimes_len hf hn
    simp only [List.length_singleton] at h1
    omega
abbrev s__law_rows_alike : Stmt := topS 66
theorem sc__law_rows_alike : FnScope ["_law_lines_here", "_law_others", "_law_late", "_law_row", "_law_k", "_law_runner", "_law_since"] ["_law_lines_here", "_law_others", "_law_late"] (defScope s__law_rows_alike) := ⟨rfl, rfl, rfl, by decide +kernel, rfl, by decide +kernel, by decide +kernel⟩
theorem ok__law_rows_alike (D : Df K mg "_law_rows_alike" s__law_rows_alike ["_law_lines_here", "_law_others", "_law_late"]) (T : Txt mg) (C_leaders : Cal P w K mg base 7 "leaders" ["lines"] (SpO K R_leaders)) (C_is_row : Cal P w K mg base 8 "is_row" ["lines", "row"] (SpI K R_is_row))
    (C_rank_row : Cal P w K mg base 7 "rank_row" ["lines", "k"] (SpO K R_rank_row)) (C__law_later : Cal P w K mg base 3 "_law_later" ["_law_time", "_law_late"] (SpI K R_later)) : Cal P w K mg base 9 "_law_rows_alike" ["_law_lines_here", "_law_others", "_law_late"] (SpI K R_rows_alike) := by
  refine Cal.ofI D sc__law_rows_alike (by decide) (fun ds d h => by obtain ⟨n, f, m, t, _, _, _, _, rfl, _⟩ := h; rfl) (fun f cdv A outer s H E hr ds d h => ?_)
  obtain ⟨n, f, m, t, hf, hf', hn, ht, rfl, rfl⟩ := h
  refine ⟨_, (pss_cons (ps_setLc (i := 3) (py := _) (own := [("_law_runner", 5), ("_law_since", 6)]) (tt := tYes) rfl sc__law_rows_alike.nd rfl rfl (sw_true rfl rfl rfl (by decide +kernel)) (pi_list (pe_cal C_leaders (hr.mono (by omega)) (by rfl) (pa_cons (pv 0) pa_nil))) (blkOk_by (own := [("_law_runner", 5), ("_law_since", 6)]) (N := ["_law_lines_here", "_law_others", "_law_late", "_law_row", "_law_k", "_law_runner", "_law_since"]) (sc := defScope (topS 66)) (by decide +kernel)) (fun _ _ _ _ _ => (pg_tupK (K := K) 2 rfl rfl (pgs_cons (pg_name (i := 5) sc__law_rows_alike.nd rfl (.inl rfl) (.inr rfl)) (pgs_cons (pg_name (i := 6) sc__law_rows_alike.nd rfl (.inl rfl) (.inr rfl)) pgs_nil)))) (fun _ _ _ _ _ => pts_nil) (fun _ _ _ _ _ => (pe_tup (pa_cons (pv 5) (pa_cons (pe_cal C__law_later (hr.mono (by omega)) (by rfl) (pa_cons (pv 6) (pa_cons (pv 2) pa_nil))) pa_nil)))))
      (pss_cons (ps_if (PW.pt (pw_or (pt_cmpR (op_neD hr.units) (pe_cal C_leaders (hr.mono (by omega)) (by rfl) (pa_cons (pv 1) pa_nil)) (pv 3) (nomark _)) (pw_or1 (pt_not (pt_val (pe_cal C_is_row (hr.mono (by omega)) (by rfl) (pa_cons (pv 1) (pa_cons (pv 3) pa_nil)))))))) (pss_one (ps_ret pe_bl)) pss_nil)
      (pss_cons (ps_for PassesOwn.never rfl (pi_range1 (by rfl) T.z_range (pa_cons (pe_op op_add (pe_callB call_len_seq (by rfl) T.z_len boot_len (pa_cons (pv 0) pa_nil)) pe_int) pa_nil)) (pg_name (i := 4) sc__law_rows_alike.nd rfl (.inl rfl)) (pss_one (ps_if (pt_cmpR (op_neD hr.units) (pe_cal C_rank_row (hr.mono (by omega)) (by rfl) (pa_cons (pv 1) (pa_cons (pv 4) pa_nil))) (pe_lc (own := [("_law_runner", 5), ("_law_since", 6)]) (tt := tYes) rfl sc__law_rows_alike.nd (pi_list (pe_cal C_rank_row (hr.mono (by omega)) (by rfl) (pa_cons (pv 0) (pa_cons (pv 4) pa_nil)))) (blkOk_by (own := [("_law_runner", 5), ("_law_since", 6)]) (N := ["_law_lines_here", "_law_others", "_law_late", "_law_row", "_law_k", "_law_runner", "_law_since"]) (sc := defScope (topS 66)) (by decide +kernel)) (fun _ _ _ _ _ => (pg_tupK (K := K) 2 rfl rfl (pgs_cons (pg_name (i := 5) sc__law_rows_alike.nd rfl (.inl rfl) (.inr rfl)) (pgs_cons (pg_name (i := 6) sc__law_rows_alike.nd rfl (.inl rfl) (.inr rfl)) pgs_nil)))) (fun _ _ _ _ _ => pts_nil) (fun _ _ _ _ _ => (pe_tup (pa_cons (pv 5) (pa_cons (pe_cal C__law_later (hr.mono (by omega)) (by rfl) (pa_cons (pv 6) (pa_cons (pv 2) pa_nil))) pa_nil))))) (nomark _)) (pss_one (ps_ret pe_bl)) pss_nil)))
      (pss_one (ps_ret pe_bl))))), ?_⟩
  have hL : ((leaders n f).map (later t)).map rowD = (leaders n (fun i => sent m t (f i))).map rowD := by rw [leaders_sent]
  refine s_seq (s_setO ((eo_lat (i := 5) (j := 6) (eo_leaders hf hn (ev_var rfl).p).p (Nat.le_trans (leaders_n n f) (by omega)) (fun q hq x hx => (leaders_sz hf q hq).2 x hx) ht (by decide) (by decide) (fun B' a b => (ev_var rfl).p) (by show 5 < 7; decide) (by show 6 < 7; decide)).is hL) (rows_noL _) (fun a _ => ?_))
  refine s_seq (s_if (b := false) ((et_or (et_test (ev_same_ne (shp_rows _) (by decide) (eo_leaders hf' hn (ev_var rfl).p).p (ep_var rfl))) (fun _ => et_not (et_B (ev_is_row hf' hn (ev_var rfl).p (ep_var rfl))))).is rfl) (fun z => nomatch z) (fun _ => s_next ?_))
  refine s_seqM (M := fun G => ∃ s4, G = [.im (linesD n f), .im (linesD n (fun i => sent m t (f i))), .im (nm t), .ow a ((leaders n (fun i => sent m t (f i))).map rowD), s4, .no, .no])
    (s_forR1 (n := n + 1) (eap_cons (ev_op (ev_lenL (ev_var rfl).p).p ev_int.p op_i0).p eap_nil) (by omega) (fun i G => ∃ s4, G = [.im (linesD n f), .im (linesD n (fun i => sent m t (f i))), .im (nm t), .ow a ((leaders n (fun i => sent m t (f i))).map rowD), s4, .no, .no]) ⟨_, rfl⟩ ?_ (fun G h => h)) ?_
  · rintro i G hi ⟨s4, rfl⟩
    have hR : ((rankRow n f i).map (later t)).map rowD = (rankRow n (fun i => sent m t (f i)) i).map rowD := by rw [rankRow_sent]
    refine s_if (b := false) (et_test (ev_same_ne (shp_rows _) (by decide) (eo_rank_row hf' hn (ev_var rfl).p (ev_var rfl).p).p ((eo_lat (i := 5) (j := 6) (eo_rank_row hf hn (ev_var rfl).p (ev_var rfl).p).p (Nat.le_trans (rankRow_n hf hn) (by omega)) (fun q hq x hx => rankRow_sz hf q hq x hx) ht (by decide) (by decide) (fun B' a b => (ev_var rfl).p) (by show 5 < 7; decide) (by show 6 < 7; decide)).is hR).p)) (fun z => nomatch z) (fun _ => s_next ⟨_, rfl⟩)
  · rintro G ⟨s4, rfl⟩
    exact s_ret ev_bl rfl
theorem ev_rows_alike {n : Nat} {f : Nat → Ln} {m : Ln} {t : Rat} (hf : SzF f) (hf' : SzF (fun i => sent m t (f i))) (hn : n ≤ 100) (ht : Sz 10 t) (h1 : EvP K B ta G (linesD n f)) (h2 : EvP K B tb G (linesD n (fun i => sent m t (f i)))) (h3 : EvP K B tt G (nm t)) :
    Ev K B (tCall (SpI K R_rows_alike) [] E0 (tCons ta (tCons tb (tCons tt tNil)))) G (.bool true) := ev_call (eap_cons h1 (eap_cons h2 (eap_cons h3 eap_nil))) ⟨n, f, m, t, hf, hf', hn, ht, rfl, rfl⟩ rfl
/-! covers_alike -/
def R_covers_alike (ds : List PD) (d : PD) : Prop := ∃ (n : Nat) (f : Nat → Ln) (m : Ln) (t : Rat), SzF f ∧ SzF (fun i => sent m t (f i)) ∧ n ≤ 100 ∧ ds = [linesD n f, linesD n (fun i => sent m t (f i))] ∧ d = .bool true
abbrev s__law_covers_alike : Stmt := topS 67
theorem sc__law_covers_alike : FnScope ["_law_lines_here", "_law_others", "_law_runner", "_law_some", "_law_one", "_law_other"] ["_law_lines_here", "_law_others"] (defScope s__law_covers_alike) := ⟨rfl, rfl, rfl, by decide +kernel, rfl, by decide +kernel, by decide +kernel⟩
theorem isN_cov (o : Option (Nat × Nat)) : isN (covD o) = o.isNone := by cases o <;> rfl
theorem ok__law_covers_alike (D : Df K mg "_law_covers_alike" s__law_covers_alike ["_law_lines_here", "_law_others"]) (T : Txt mg) (C_cover : Cal P w K mg base 8 "cover" ["lines", "runner"] (SpI K R_cover)) (C_is_cover : Cal P w K mg base 7 "is_cover" ["lines", "runner", "one", "other"] (SpI K R_is_cover)) :
    Cal P w K mg base 9 "_law_covers_alike" ["_law_lines_here", "_law_others"] (SpI K R_covers_alike) := by
  refine Cal.ofI D sc__law_covers_alike (by decide) (fun ds d h => by obtain ⟨n, f, m, t, _, _, _, rfl, _⟩ := h; rfl) (fun f cdv A outer s H E hr ds d h => ?_)
  obtain ⟨n, f, m, t, hf, hf', hn, rfl, rfl⟩ := h
  refine ⟨_, (pss_cons (ps_for PassesOwn.never rfl (pi_range1 (by rfl) T.z_range (pa_cons (pe_callB call_len_seq (by rfl) T.z_len boot_len (pa_cons (pv 0) pa_nil)) pa_nil)) (pg_name (i := 2) sc__law_covers_alike.nd rfl (.inl rfl)) (pss_cons (ps_for PassesOwn.never rfl (pi_list (pe_lst (pa_cons (pe_cal C_cover (hr.mono (by omega)) (by rfl) (pa_cons (pv 0) (pa_cons (pv 2) pa_nil))) (pa_cons (pe_cal C_cover (hr.mono (by omega)) (by rfl) (pa_cons (pv 1) (pa_cons (pv 2) pa_nil))) pa_nil)))) (pg_name (i := 3) sc__law_covers_alike.nd rfl (.inl rfl)) (pss_cons (ps_if (pt_cmpR (op_neD hr.units) (pe_cmpR op_isN (pv 3) pe_non (nomark _)) (pe_cmpR op_isN (pe_cal C_cover (hr.mono (by omega)) (by rfl) (pa_cons (pv 0) (pa_cons (pv 2) pa_nil))) pe_non (nomark _)) (nomark _)) (pss_one (ps_ret pe_bl)) pss_nil)
      (pss_cons (ps_if (PW.pt (pw_and (pt_cmpR op_notN (pv 3) pe_non (nomark _)) (pw_and1 (pt_not (pt_val (pe_cal C_is_cover (hr.mono (by omega)) (by rfl) (pa_cons (pv 0) (pa_cons (pv 2) (pa_cons (pe_ix (ix_tupK (K := K) rfl) (pv 3) pe_int (fun _ _ => rfl)) (pa_cons (pe_ix (ix_tupK (K := K) rfl) (pv 3) pe_int (fun _ _ => rfl)) pa_nil)))))))))) (pss_one (ps_ret pe_bl)) pss_nil)
      (pss_one (ps_if (PW.pt (pw_and (pt_cmpR op_notN (pv 3) pe_non (nomark _)) (pw_and1 (pt_not (pt_val (pe_cal C_is_cover (hr.mono (by omega)) (by rfl) (pa_cons (pv 1) (pa_cons (pv 2) (pa_cons (pe_ix (ix_tupK (K := K) rfl) (pv 3) pe_int (fun _ _ => rfl)) (pa_cons (pe_ix (ix_tupK (K := K) rfl) (pv 3) pe_int (fun _ _ => rfl)) pa_nil)))))))))) (pss_one (ps_ret pe_bl)) pss_nil)))))
      (pss_one (ps_for PassesOwn.never rfl (pi_range1 (by rfl) T.z_range (pa_cons (pe_callB call_len_seq (by rfl) T.z_len boot_len (pa_cons (pv 0) pa_nil)) pa_nil)) (pg_name (i := 4) sc__law_covers_alike.nd rfl (.inl rfl)) (pss_cons (ps_set (i := 5) sc__law_covers_alike.nd rfl (.inl rfl) (pe_op op_mdN (pe_op op_add (pv 4) (pv 2)) (pe_callB call_len_seq (by rfl) T.z_len boot_len (pa_cons (pv 0) pa_nil))))
      (pss_one (ps_if (pt_cmpR (op_neD hr.units) (pe_cal C_is_cover (hr.mono (by omega)) (by rfl) (pa_cons (pv 0) (pa_cons (pv 2) (pa_cons (pv 4) (pa_cons (pv 5) pa_nil))))) (pe_cal C_is_cover (hr.mono (by omega)) (by rfl) (pa_cons (pv 1) (pa_cons (pv 2) (pa_cons (pv 4) (pa_cons (pv 5) pa_nil))))) (nomark _)) (pss_one (ps_ret pe_bl)) pss_nil)))))))
      (pss_one (ps_ret pe_bl))), ?_⟩
  refine s_seqM (M := fun G => ∃ s2 s3 s4 s5, G = [.im (linesD n f), .im (linesD n (fun i => sent m t (f i))), s2, s3, s4, s5])
    (s_forR1 (n := n) (eap_cons (ev_lenL (ev_var rfl).p).p eap_nil) (by omega) (fun i G => ∃ s2 s3 s4 s5, G = [.im (linesD n f), .im (linesD n (fun i => sent m t (f i))), s2, s3, s4, s5]) ⟨_, _, _, _, rfl⟩ ?_ (fun G h => h)) ?_
  · rintro x G hx ⟨s2, s3, s4, s5, rfl⟩
    have hcs := cover_sent n f m t x
    refine s_seqM (M := fun G => ∃ s3, G = [.im (linesD n f), .im (linesD n (fun i => sent m t (f i))), .im (.int (x : Int)), s3, s4, s5])
      (s_forO (ds := [covD (cover n f x), covD (cover n f x)]) (eo_lst (eap_cons (ev_cover hf hn hx (ev_var rfl).p (ev_var rfl).p).p (eap_cons ((ev_cover hf' hn hx (ev_var rfl).p (ev_var rfl).p).is (by rw [hcs])).p eap_nil))) (by simp [noL.noLs, covD_noL]) (fun i G => ∃ s3, G = [.im (linesD n f), .im (linesD n (fun i => sent m t (f i))), .im (.int (x : Int)), s3, s4, s5]) ⟨_, rfl⟩ ?_ (fun G h => h)) ?_
    · rintro i d G hd ⟨s3, rfl⟩
      have hdd : d = covD (cover n f x) := by
        match i, hd with
        | 0, hd => simpa using hd.symm
        | 1, hd => simpa using hd.symm
      subst hdd
      refine ⟨[3], _, tg_name (j := 3) (by decide), ?_⟩
      refine s_seq (s_if (b := false) (et_test (ev_same_ne (shp_bool _) (by decide) (ev_op (ev_var rfl).p ev_non.p op_is').p (ev_op (ev_cover hf hn hx (ev_var rfl).p (ev_var rfl).p).p ev_non.p op_is').p)) (fun z => nomatch z) (fun _ => s_next ?_))
      cases hc : cover n f x with
      | none =>
        refine s_seq (s_if (b := false) ((et_and (b := false) (et_test (ev_op (ev_var rfl).p ev_non.p op_isnot')) (fun z => absurd z (by decide))).is rfl) (fun z => nomatch z) (fun _ => s_next ?_))
        exact s_if (b := false) ((et_and (b := false) (et_test (ev_op (ev_var rfl).p ev_non.p op_isnot')) (fun z => absurd z (by decide))).is rfl) (fun z => nomatch z) (fun _ => s_next ⟨_, rfl⟩)
      | some ab =>
        obtain ⟨a, b⟩ := ab
        obtain ⟨ha, hb⟩ := cover_lt hf hx hc
        have k1 := cover_ok hx hc
        have k2 : isCover (fun i => sent m t (f i)) x a b = true := by rw [isCover_sent]; exact k1
        refine s_seq (s_if (b := false) ((et_and (et_test (ev_op (ev_var rfl).p ev_non.p op_isnot')) (fun _ => et_not (et_B ((ev_is_cover hf hn hx ha hb (ev_var rfl).p (ev_var rfl).p (ev_t0 (ev_var rfl)).p (ev_t1 (ev_var rfl)).p).is (by rw [k1]))))).is rfl) (fun z => nomatch z) (fun _ => s_next ?_))
        exact s_if (b := false) ((et_and (et_test (ev_op (ev_var rfl).p ev_non.p op_isnot')) (fun _ => et_not (et_B ((ev_is_cover hf' hn hx ha hb (ev_var rfl).p (ev_var rfl).p (ev_t0 (ev_var rfl)).p (ev_t1 (ev_var rfl)).p).is (by rw [k2]))))).is rfl) (fun z => nomatch z) (fun _ => s_next ⟨_, rfl⟩)
    · rintro G ⟨s3, rfl⟩
      refine (s_forR1 (n := n) (eap_cons (ev_lenL (ev_var rfl).p).p eap_nil) (by omega) (fun i G => ∃ s4 s5, G = [.im (linesD n f), .im (linesD n (fun i => sent m t (f i))), .im (.int (x : Int)), s3, s4, s5]) ⟨_, _, rfl⟩ ?_ (fun G h => ?_))
      · rintro i G hi ⟨s4, s5, rfl⟩
        refine s_seq (s_set ((ev_op (ev_op (ev_var rfl).p (ev_var rfl).p op_i0).p (ev_lenL (ev_var rfl).p).p (op_iC (by omega))).is (x := .int (((i + x) % n : Nat) : Int)) ?_) ?_)
        · rw [Int.natCast_emod, Int.natCast_add]
        · have hlt : (i + x) % n < n := Nat.mod_lt _ (by omega)
          exact s_if (b := false) (et_test (ev_same_ne (shp_bool _) (by decide) (ev_is_cover hf hn hx hi hlt (ev_var rfl).p (ev_var rfl).p (ev_var rfl).p (ev_var rfl).p).p ((ev_is_cover hf' hn hx hi hlt (ev_var rfl).p (ev_var rfl).p (ev_var rfl).p (ev_var rfl).p).is (by rw [isCover_sent])).p)) (fun z => nomatch z) (fun _ => s_next ⟨_, _, rfl⟩)
      · obtain ⟨s4, s5, rfl⟩ := h
        exact ⟨_, _, _, _, rfl⟩
  · rintro G ⟨s2, s3, s4, s5, rfl⟩
    exact s_ret ev_bl rfl
theorem ev_covers_alike {n : Nat} {f : Nat → Ln} {m : Ln} {t : Rat} (hf : SzF f) (hf' : SzF (fun i => sent m t (f i))) (hn : n ≤ 100) (h1 : EvP K B ta G (linesD n f)) (h2 : EvP K B tb G (linesD n (fun i => sent m t (f i)))) :
    Ev K B (tCall (SpI K R_covers_alike) [] E0 (tCons ta (tCons tb tNil))) G (.bool true) := ev_call (eap_cons h1 (eap_cons h2 eap_nil)) ⟨n, f, m, t, hf, hf', hn, rfl, rfl⟩ rfl
end
end PF

-- P25
set_option linter.all false
set_option maxRecDepth 100000
set_option maxHeartbeats 4000000
namespace PF
open PySem PySem.Spec PyProof.Rows L2 LT
section
variable {P : Program} {w : World} {K : PySem.W.Frag} {mg : Str → Option Value} {base : Heap} {CK CW : Addr} {B : Hp} {G : List Sl} {te tl ta tb tt td : TE} {d : PD} {u : TS}
theorem later_some {a t : Rat} (h : Ev K B te G (optD ((some a).map (· + t)))) : Ev K B te G (nm (a + t)) := h
theorem papersAt_len {n : Nat} {f : Nat → Ln} {t : Rat} (hn : n ≤ 100) : (papersAt n f t).length ≤ 100 := by
  unfold papersAt
  rw [List.length_map, pairsOf_len, order_len]
  omega
/-! alike_at -/
def R_alike_at (ds : List PD) (d : PD) : Prop := ∃ (n : Nat) (f : Nat → Ln) (m : Ln) (s t : Rat), SzF f ∧ SzF (fun i => sent m t (f i)) ∧ n ≤ 100 ∧ Sz 500 s ∧ Sz 10 t ∧ ds = [linesD n f, linesD n (fun i => sent m t (f i)), nm s, nm t] ∧ d = .bool true
abbrev s__law_alike_at : Stmt := topS 68
theorem sc__law_alike_at : FnScope ["_law_lines_here", "_law_others", "_law_time", "_law_late", "_law_there", "_law_papers", "_law_one", "_law_other", "_law_till"] ["_law_lines_here", "_law_others", "_law_time", "_law_late"] (defScope s__law_alike_at) := ⟨rfl, rfl, rfl, by decide +kernel, rfl, by decide +kernel, by decide +kernel⟩
theorem ok__law_alike_at (D : Df K mg "_law_alike_at" s__law_alike_at ["_law_lines_here", "_law_others", "_law_time", "_law_late"]) (C_order_at : Cal P w K mg base 6 "order_at" ["lines", "time"] (SpO K R_order_at)) (C_front : Cal P w K mg base 5 "front" ["lines", "time"] (SpO K R_front))
    (C_papers_at : Cal P w K mg base 7 "papers_at" ["lines", "time"] (SpO K R_papers_at)) (C_nearest : Cal P w K mg base 7 "nearest" ["lines", "time"] (SpI K R_nearest)) (C__law_later : Cal P w K mg base 3 "_law_later" ["_law_time", "_law_late"] (SpI K R_later)) :
    Cal P w K mg base 8 "_law_alike_at" ["_law_lines_here", "_law_others", "_law_time", "_law_late"] (SpI K R_alike_at) := by
  refine Cal.ofI D sc__law_alike_at (by decide) (fun ds d h => by obtain ⟨n, f, m, s, t, _, _, _, _, _, rfl, _⟩ := h; rfl) (fun f cdv A outer s H E hr ds d h => ?_)
  obtain ⟨n, f, m, a, t, hf, hf', hn, ha, ht, rfl, rfl⟩ := h
  refine ⟨_, (pss_cons (ps_set (i := 4) sc__law_alike_at.nd rfl (.inl rfl) (pe_cal C__law_later (hr.mono (by omega)) (by rfl) (pa_cons (pv 2) (pa_cons (pv 3) pa_nil))))
      (pss_cons (ps_if (PW.pt (pw_or (pt_cmpR (op_neD hr.units) (pe_cal C_order_at (hr.mono (by omega)) (by rfl) (pa_cons (pv 1) (pa_cons (pv 4) pa_nil))) (pe_cal C_order_at (hr.mono (by omega)) (by rfl) (pa_cons (pv 0) (pa_cons (pv 2) pa_nil))) (nomark _)) (pw_or1 (pt_cmpR (op_neD hr.units) (pe_cal C_front (hr.mono (by omega)) (by rfl) (pa_cons (pv 1) (pa_cons (pv 4) pa_nil))) (pe_cal C_front (hr.mono (by omega)) (by rfl) (pa_cons (pv 0) (pa_cons (pv 2) pa_nil))) (nomark _))))) (pss_one (ps_ret pe_bl)) pss_nil)
      (pss_cons (ps_setLc (i := 5) (py := _) (own := [("_law_one", 6), ("_law_other", 7), ("_law_till", 8)]) (tt := tYes) rfl sc__law_alike_at.nd rfl rfl (sw_true rfl rfl rfl (by decide +kernel)) (pi_list (pe_cal C_papers_at (hr.mono (by omega)) (by rfl) (pa_cons (pv 0) (pa_cons (pv 2) pa_nil)))) (blkOk_by (own := [("_law_one", 6), ("_law_other", 7), ("_law_till", 8)]) (N := ["_law_lines_here", "_law_others", "_law_time", "_law_late", "_law_there", "_law_papers", "_law_one", "_law_other", "_law_till"]) (sc := defScope (topS 68)) (by decide +kernel)) (fun _ _ _ _ _ => (pg_tupK (K := K) 3 rfl rfl (pgs_cons (pg_name (i := 6) sc__law_alike_at.nd rfl (.inl rfl) (.inr rfl)) (pgs_cons (pg_name (i := 7) sc__law_alike_at.nd rfl (.inl rfl) (.inr rfl)) (pgs_cons (pg_name (i := 8) sc__law_alike_at.nd rfl (.inl rfl) (.inr rfl)) pgs_nil))))) (fun _ _ _ _ _ => pts_nil) (fun _ _ _ _ _ => (pe_tup (pa_cons (pv 6) (pa_cons (pv 7) (pa_cons (pe_cal C__law_later (hr.mono (by omega)) (by rfl) (pa_cons (pv 8) (pa_cons (pv 3) pa_nil))) pa_nil))))))
      (pss_one (ps_ret (pe_and (pe_cmpR (op_eqD hr.units) (pe_cal C_papers_at (hr.mono (by omega)) (by rfl) (pa_cons (pv 1) (pa_cons (pv 4) pa_nil))) (pv 5) (nomark _)) (pe_one (pe_cmpR (op_eqD hr.units) (pe_cal C_nearest (hr.mono (by omega)) (by rfl) (pa_cons (pv 1) (pa_cons (pv 4) pa_nil))) (pe_cal C_nearest (hr.mono (by omega)) (by rfl) (pa_cons (pv 0) (pa_cons (pv 2) pa_nil))) (nomark _))))))))), ?_⟩
  have ha6 : Sz 600 a := sz_mono ha (by decide)
  have hat : Sz 600 (a + t) := sz_mono (sz_add ha ht) (by decide)
  refine s_seq (s_set (later_some (ev_later (o := some a) (fun x hx => by cases hx; exact ha6) ht (ev_var rfl).p (ev_var rfl).p)) ?_)
  have shn : ∀ l : List Nat, Shp 1 (.list (natsD l)) := fun l => shp_lst fun d hd => by
    obtain ⟨x, _, rfl⟩ := List.mem_map.mp hd
    exact shp_int _
  refine s_seq (s_if (b := false) ((et_or (et_test (ev_same_ne (shn _) (by decide) ((eo_order_at hf' hat hn (ev_var rfl).p (ev_var rfl).p).is (by rw [order_sent])).p (eo_order_at hf ha6 hn (ev_var rfl).p (ev_var rfl).p).p)) (fun _ => et_test (ev_same_ne (shn _) (by decide) ((eo_front hf' hat hn (ev_var rfl).p (ev_var rfl).p).is (by rw [front_sent])).p (eo_front hf ha6 hn (ev_var rfl).p (ev_var rfl).p).p))).is rfl) (fun z => nomatch z) (fun _ => s_next ?_))
  refine s_seq (s_setO (ds := (papersAt n (fun i => sent m t (f i)) (a + t)).map papD) (eo_lc (eo_papers_at hf ha6 hn (ev_var rfl).p (ev_var rfl).p).p (small_sz (by rw [List.length_map]; have := papersAt_len (n := n) (f := f) (t := a) hn; omega)) (by rw [papersAt_sent]; simp) (fun B' k d e hd he => ?_)) (noLs_iff.mpr fun d hd => ?_) (fun b _ => ?_))
  · rw [papersAt_sent, List.map_map, List.getElem?_map] at he
    rw [List.getElem?_map] at hd
    obtain ⟨p, hp, rfl⟩ := Option.map_eq_some_iff.mp hd
    rw [hp] at he
    cases he
    exact ⟨_, tg_trip (i := 6) (j := 7) (k := 8) (by decide) (by decide) (by decide), ev_tup (ea_cons (ev_var rfl) (ea_cons (ev_var rfl) (ea_cons (ev_later (fun x hx => sz_mono (papers_sz hf p (List.mem_of_getElem? hp) x hx) (by decide)) ht (ev_var rfl).p (ev_var rfl).p) ea_nil)))⟩
  · obtain ⟨p, _, rfl⟩ := List.mem_map.mp hd
    exact papD_noL p
  · refine s_ret ((ev_andV (ev_same_eq (shp_paps _) (by decide) (eo_papers_at hf' hat hn (ev_var rfl).p (ev_var rfl).p).p (ep_var rfl)) (fun _ => ev_same_eq (shp_near _) (by decide) ((ev_nearest hf' hat hn (ev_var rfl).p (ev_var rfl).p).is (by rw [nearest_sent])).p (ev_nearest hf ha6 hn (ev_var rfl).p (ev_var rfl).p).p))) rfl
theorem ev_alike_at {n : Nat} {f : Nat → Ln} {m : Ln} {s t : Rat} (hf : SzF f) (hf' : SzF (fun i => sent m t (f i))) (hn : n ≤ 100) (hs : Sz 500 s) (ht : Sz 10 t) (h1 : EvP K B ta G (linesD n f)) (h2 : EvP K B tb G (linesD n (fun i => sent m t (f i)))) (h3 : EvP K B tt G (nm s)) (h4 : EvP K B td G (nm t)) :
    Ev K B (tCall (SpI K R_alike_at) [] E0 (tCons ta (tCons tb (tCons tt (tCons td tNil))))) G (.bool true) := ev_call (eap_cons h1 (eap_cons h2 (eap_cons h3 (eap_cons h4 eap_nil)))) ⟨n, f, m, s, t, hf, hf', hn, hs, ht, rfl, rfl⟩ rfl
/-! going_alike -/
def goL (n : Nat) (f : Nat → Ln) (low high : Rat) : List (Rat × Nat × Nat) := goF f high (fuelOf (order n f low)) (order n f low) low
theorem goL_sent (n : Nat) (f : Nat → Ln) (m : Ln) (t low high : Rat) : goL n (fun i => sent m t (f i)) (low + t) (high + t) = (goL n f low high).map (latS t) := by
  unfold goL
  rw [order_sent, goF_sent]
theorem eo_go (T : TxtK K mg CK CW) {n : Nat} {f : Nat → Ln} {low high : Rat} (hf : SzF f) (hn : n ≤ 7) (hlo : Sz 600 low) (hhi : Sz 600 high) (hlt : ¬ high < low) (h1 : EvP K B ta G (linesD n f)) (h2 : EvP K B tb G (nm low)) (h3 : EvP K B tt G (nm high)) :
    EvO K B (tMeth CK "go" (spGo P w K CK CW) [] E0 (tMake CK (spKInit P w K CK CW) [] E0 (tCons (tCB (fun xs H Q => ∃ p ys, xs = [.ref p] ∧ (SqL K H p ys ∨ SqT K H p ys) ∧ ∀ l, H l = none → Q (.ref l) (upd H l (.lst ys))) (tCons ta tNil)) (tCons tb tNil))) (tCons tt tNil)) G ((goL n f low high).map stD) := fun σ H I Q q => by
  unfold tMeth tMake
  refine (eap_cons (eo_list h1).p (eap_cons h2 eap_nil)) σ H I _ fun vs H1 e1 hvs => ?_
  intro x dx hx hdx ndx
  cases hvs with
  | @cons v1 _ vs' _ g1 g2 =>
    cases g2 with
    | @cons v2 _ vs'' _ g2 g3 =>
      cases g3
      have s1 : Same H1 (upd (upd H1 dx (.own x)) x (.ins CK dx [])) := fun b o e => by
        rw [upd_ne (ne_of_none e hx), upd_ne (ne_of_none e hdx)]
        exact e
      refine ⟨n, f, H1, x, dx, low, v1, v2, rfl, s1, hx, upd_same, dp_ex s1 g1, dp_ex s1 g2, hf, hn, hlo, fun H2 ps wi wk s2 ts2 => ⟨rfl, ?_⟩⟩
      obtain ⟨_, dx', lb, rb, qq, nv, xs, hW, _⟩ := id wk
      refine ⟨x, dx', _, rfl, hW, kf_no (by decide +kernel) (by decide +kernel) (by decide +kernel) (by decide +kernel), h3 σ H2 (I.ex (e1.trans s2)) _ fun v3 H3 e3 g3 => ?_⟩
      exact ⟨n, f, H1, x, _, high, v3, rfl, s2.trans e3, wk.ex e3, wi, g3, hhi, hlt, fun a H4 xs ha s4 ts4 hxs hd => q a H4 xs (same_there ((e1.trans s2).trans e3) a ha) (e1.trans s4) hxs hd⟩
def R_going_alike (ds : List PD) (d : PD) : Prop := ∃ (n : Nat) (f : Nat → Ln) (m : Ln) (low high t : Rat), SzF f ∧ SzF (fun i => sent m t (f i)) ∧ n ≤ 7 ∧ Sz 500 low ∧ Sz 550 high ∧ ¬ high < low ∧ Sz 10 t ∧ ds = [linesD n f, linesD n (fun i => sent m t (f i)), nm low, nm high, nm t] ∧ d = .bool true
abbrev s__law_going_alike : Stmt := topS 69
theorem sc__law_going_alike : FnScope ["_law_lines_here", "_law_others", "_law_low", "_law_high", "_law_late", "_law_due", "_law_told", "_law_found", "_law_time", "_law_pairs", "_law_one", "_law_other"] ["_law_lines_here", "_law_others", "_law_low", "_law_high", "_law_late"] (defScope s__law_going_alike) := ⟨rfl, rfl, rfl, by decide +kernel, rfl, by decide +kernel, by decide +kernel⟩
theorem ok__law_going_alike (D : Df K mg "_law_going_alike" s__law_going_alike ["_law_lines_here", "_law_others", "_law_low", "_law_high", "_law_late"]) (T : TxtK K mg CK CW) (C_changes : Cal P w K mg base 6 "changes" ["lines", "low", "high"] (SpP K R_changes))
    (M_Walk : CalN P w K mg base 22 CK "Walk" ["self", "lines", "time"] (spKInit P w K CK CW)) (C_Walk_go : CalM P w K mg base 32 CK "go" ["self", "time"] (spGo P w K CK CW)) (C__law_later : Cal P w K mg base 3 "_law_later" ["_law_time", "_law_late"] (SpI K R_later)) :
    Cal P w K mg base 33 "_law_going_alike" ["_law_lines_here", "_law_others", "_law_low", "_law_high", "_law_late"] (SpI K R_going_alike) := by
  refine Cal.ofI D sc__law_going_alike (by decide) (fun ds d h => by obtain ⟨n, f, m, low, high, t, _, _, _, _, _, _, _, rfl, _⟩ := h; rfl) (fun f cdv A outer s H E hr ds d h => ?_)
  obtain ⟨n, f, m, low, high, t, hf, hf', hn, hlo, hhi, hlt, ht, rfl, rfl⟩ := h
  refine ⟨_, (pss_cons (ps_setLc (i := 5) (py := _) (own := [("_law_time", 8), ("_law_pairs", 9)]) (tt := tYes) rfl sc__law_going_alike.nd rfl rfl (sw_true rfl rfl rfl (by decide +kernel)) (pi_list (pe_cal C_changes (hr.mono (by omega)) (by rfl) (pa_cons (pv 0) (pa_cons (pv 2) (pa_cons (pv 3) pa_nil))))) (blkOk_by (own := [("_law_time", 8), ("_law_pairs", 9)]) (N := ["_law_lines_here", "_law_others", "_law_low", "_law_high", "_law_late", "_law_due", "_law_told", "_law_found", "_law_time", "_law_pairs", "_law_one", "_law_other"]) (sc := defScope (topS 69)) (by decide +kernel)) (fun _ _ _ _ _ => (pg_tupK (K := K) 2 rfl rfl (pgs_cons (pg_name (i := 8) sc__law_going_alike.nd rfl (.inl rfl) (.inr rfl)) (pgs_cons (pg_name (i := 9) sc__law_going_alike.nd rfl (.inl rfl) (.inr rfl)) pgs_nil)))) (fun _ _ _ _ _ => pts_nil) (fun _ _ _ _ _ => (pe_tup (pa_cons (pe_cal C__law_later (hr.mono (by omega)) (by rfl) (pa_cons (pv 8) (pa_cons (pv 4) pa_nil))) (pa_cons (pv 9) pa_nil)))))
      (pss_cons (ps_if (pt_cmpR (op_neD hr.units) (pe_cal C_changes (hr.mono (by omega)) (by rfl) (pa_cons (pv 1) (pa_cons (pe_cal C__law_later (hr.mono (by omega)) (by rfl) (pa_cons (pv 2) (pa_cons (pv 4) pa_nil))) (pa_cons (pe_cal C__law_later (hr.mono (by omega)) (by rfl) (pa_cons (pv 3) (pa_cons (pv 4) pa_nil))) pa_nil)))) (pv 5) (nomark _)) (pss_one (ps_ret pe_bl)) pss_nil)
      (pss_cons (ps_set (i := 6) sc__law_going_alike.nd rfl (.inl rfl) (pe_mcal T.cl_Walk C_Walk_go (hr.mono (by omega)) (pe_mk M_Walk (hr.mono (by omega)) (by rfl) (pa_cons (pe_callTy call_list_of (by rfl) T.z_list boot_list (pa_cons (pv 0) pa_nil)) (pa_cons (pv 2) pa_nil))) (pa_cons (pv 3) pa_nil)))
      (pss_cons (ps_set (i := 7) sc__law_going_alike.nd rfl (.inl rfl) (pe_mcal T.cl_Walk C_Walk_go (hr.mono (by omega)) (pe_mk M_Walk (hr.mono (by omega)) (by rfl) (pa_cons (pe_callTy call_list_of (by rfl) T.z_list boot_list (pa_cons (pv 1) pa_nil)) (pa_cons (pe_cal C__law_later (hr.mono (by omega)) (by rfl) (pa_cons (pv 2) (pa_cons (pv 4) pa_nil))) pa_nil))) (pa_cons (pe_cal C__law_later (hr.mono (by omega)) (by rfl) (pa_cons (pv 3) (pa_cons (pv 4) pa_nil))) pa_nil)))
      (pss_one (ps_ret (pe_cmpR (op_eqD hr.units) (pv 7) (pe_lc (own := [("_law_time", 8), ("_law_one", 10), ("_law_other", 11)]) (tt := tYes) rfl sc__law_going_alike.nd (pi_list (pv 6)) (blkOk_by (own := [("_law_time", 8), ("_law_one", 10), ("_law_other", 11)]) (N := ["_law_lines_here", "_law_others", "_law_low", "_law_high", "_law_late", "_law_due", "_law_told", "_law_found", "_law_time", "_law_pairs", "_law_one", "_law_other"]) (sc := defScope (topS 69)) (by decide +kernel)) (fun _ _ _ _ _ => (pg_tupK (K := K) 3 rfl rfl (pgs_cons (pg_name (i := 8) sc__law_going_alike.nd rfl (.inl rfl) (.inr rfl)) (pgs_cons (pg_name (i := 10) sc__law_going_alike.nd rfl (.inl rfl) (.inr rfl)) (pgs_cons (pg_name (i := 11) sc__law_going_alike.nd rfl (.inl rfl) (.inr rfl)) pgs_nil))))) (fun _ _ _ _ _ => pts_nil) (fun _ _ _ _ _ => (pe_tup (pa_cons (pe_cal C__law_later (hr.mono (by omega)) (by rfl) (pa_cons (pv 8) (pa_cons (pv 4) pa_nil))) (pa_cons (pv 10) (pa_cons (pv 11) pa_nil)))))) (nomark _)))))))), ?_⟩
  have hlo6 : Sz 600 low := sz_mono hlo (by decide)
  have hhi6 : Sz 600 high := sz_mono hhi (by decide)
  have hlot : Sz 600 (low + t) := sz_mono (sz_add hlo ht) (by decide)
  have hhit : Sz 600 (high + t) := sz_mono (sz_add hhi ht) (by decide)
  have hn1 : n ≤ 100 := by omega
  have hltt : ¬ high + t < low + t := by rw [LT.add_lt]; exact hlt
  have hch : chD (LT.changes n (fun i => sent m t (f i)) (low + t) (high + t)) = .list ((LT.changes n f low high).map fun c => .tuple [nm (c.1 + t), .list (c.2.map prD)]) := by
    rw [changes_sent]
    unfold chD
    rw [List.map_map]
    rfl
  have hchl : (LT.changes n f low high).length ≤ 10000 := by
    have h1 := (chAll_bd (n := n) hf (low := some low) (high := some high) n).1
    have hnn : n * n ≤ 100 * 100 := Nat.mul_le_mul hn1 hn1
    exact Nat.le_trans h1 hnn
  refine s_setP (d := .list ((LT.changes n f low high).map fun c => .tuple [nm (c.1 + t), .list (c.2.map prD)])) (eo_lc (ds := (LT.changes n f low high).map fun c => .tuple [nm c.1, .list (c.2.map prD)]) (ep_changes hf hlo6 hhi6 hn1 (ev_var rfl).p (ev_var rfl).p (ev_var rfl).p) (big_sz (by rw [List.length_map]; omega)) (by simp) (fun B' k d e hd he => ?_)).p rfl (fun B1 sB1 => ?_)
  · rw [List.getElem?_map] at hd he
    obtain ⟨c, hc, rfl⟩ := Option.map_eq_some_iff.mp hd
    rw [hc] at he
    cases he
    exact ⟨_, tg_pair (i := 8) (j := 9) (by decide) (by decide), ev_tup (ea_cons (later_some (ev_later (o := some c.1) (fun x hx => by cases hx; exact sz_mono (changes_sz hf c (List.mem_of_getElem? hc)) (by decide)) ht (ev_var rfl).p (ev_var rfl).p)) (ea_cons (ev_var rfl) ea_nil))⟩
  have lat : ∀ {B' : Hp} {G : List Sl} {i : Nat} {a : Rat}, Sz 600 a → G[i]? = some (.im (nm a)) → G[4]? = some (.im (nm t)) → Ev K B' (tCall (SpI K R_later) [] E0 (tCons (tVar i) (tCons (tVar 4) tNil))) G (nm (a + t)) := fun {B' G i a} ha h1 h2 =>
    later_some (ev_later (o := some a) (fun x hx => by cases hx; exact ha) ht (ev_var h1).p (ev_var h2).p)
  refine s_seq (s_if (b := false) (et_test (ev_same_ne (shp_ch _) (by decide) (ep_changes hf' hlot hhit hn1 (ev_var rfl).p (lat hlo6 rfl rfl).p (lat hhi6 rfl rfl).p) ((ev_var rfl).is hch.symm).p)) (fun z => nomatch z) (fun _ => s_next ?_))
  refine s_setP (eo_go T hf hn hlo6 hhi6 hlt (ev_var rfl).p (ev_var rfl).p (ev_var rfl).p).p rfl (fun B2 sB2 => ?_)
  refine s_setP (eo_go T hf' hn hlot hhit hltt (ev_var rfl).p (lat hlo6 rfl rfl).p (lat hhi6 rfl rfl).p).p rfl (fun B3 sB3 => ?_)
  show St K B3 _ [.im (linesD n f), .im (linesD n (fun i => sent m t (f i))), .im (nm low), .im (nm high), .im (nm t), .im (.list ((LT.changes n f low high).map fun c => .tuple [nm (c.1 + t), .list (c.2.map prD)])), .im (.list ((goL n f low high).map stD)), .im (.list ((goL n (fun i => sent m t (f i)) (low + t) (high + t)).map stD)), .no, .no, .no, .no] _ _
  have hgl : (goL n f low high).length ≤ 1000 := by
    have h1 := goF_len (f := f) (high := high) (fuelOf (order n f low)) (order n f low) low
    have h2 : fuelOf (order n f low) ≤ 50 := by
      unfold fuelOf
      rw [order_len]
      have := Nat.mul_le_mul hn hn
      omega
    exact Nat.le_trans h1 (by omega)
  have shg : ∀ l : List (Rat × Nat × Nat), Shp 3 (.list (l.map stD)) := fun l => shp_lst fun d hd => by
    obtain ⟨x, _, rfl⟩ := List.mem_map.mp hd
    exact shp_st x
  refine s_ret (ev_same_eq (shg (goL n (fun i => sent m t (f i)) (low + t) (high + t))) (by decide) (ev_var rfl).p (eo_lc (ds := (goL n f low high).map stD) (ev_var rfl).p (small_sz (by rw [List.length_map]; exact hgl)) (by rw [goL_sent]; simp) (fun B' k d e hd he => ?_)).p) rfl
  rw [goL_sent, List.map_map, List.getElem?_map] at he
  rw [List.getElem?_map] at hd
  obtain ⟨s, hs, rfl⟩ := Option.map_eq_some_iff.mp hd
  rw [hs] at he
  cases he
  have hss : Sz 600 s.1 := goF_sz hf _ _ _ hlo6 s (List.mem_of_getElem? hs)
  refine ⟨_, tg_trip (i := 8) (j := 10) (k := 11) (by decide) (by decide) (by decide), ?_⟩
  show Ev K B' _ [.im (linesD n f), .im (linesD n (fun i => sent m t (f i))), .im (nm low), .im (nm high), .im (nm t), .im (.list ((LT.changes n f low high).map fun c => .tuple [nm (c.1 + t), .list (c.2.map prD)])), .im (.list ((goL n f low high).map stD)), .im (.list ((goL n (fun i => sent m t (f i)) (low + t) (high + t)).map stD)), .im (nm s.1), .no, .im (.int (s.2.1 : Nat)), .im (.int (s.2.2 : Nat))] (.tuple [nm (s.1 + t), .int (s.2.1 : Nat), .int (s.2.2 : Nat)])
  exact ev_tup (ea_cons (lat hss rfl rfl) (ea_cons (ev_var rfl) (ea_cons (ev_var rfl) ea_nil)))
theorem ev_going_alike {te : TE} {n : Nat} {f : Nat → Ln} {m : Ln} {low high t : Rat} (hf : SzF f) (hf' : SzF (fun i => sent m t (f i))) (hn : n ≤ 7) (hlo : Sz 500 low) (hhi : Sz 550 high) (hlt : ¬ high < low) (ht : Sz 10 t) (h1 : EvP K B ta G (linesD n f)) (h2 : EvP K B tb G (linesD n (fun i => sent m t (f i)))) (h3 : EvP K B tt G (nm low)) (h4 : EvP K B td G (nm high)) (h5 : EvP K B te G (nm t)) :
    Ev K B (tCall (SpI K R_going_alike) [] E0 (tCons ta (tCons tb (tCons tt (tCons td (tCons te tNil)))))) G (.bool true) := ev_call (eap_cons h1 (eap_cons h2 (eap_cons h3 (eap_cons h4 (eap_cons h5 eap_nil))))) ⟨n, f, m, low, high, t, hf, hf', hn, hlo, hhi, hlt, ht, rfl, rfl⟩ rfl
end
end PF

-- P26
set_option linter.all false
set_option maxRecDepth 100000
set_option maxHeartbeats 4000000
namespace PF
open PySem PySem.Spec PyProof.Rows L2 LT
section
variable {P : Program} {w : World} {K : PySem.W.Frag} {mg : Str → Option Value} {base : Heap} {B : Hp} {G : List Sl} {te tl ta tb tt : TE} {d : PD} {u : TS}
theorem sm64 {i : Int} (h : -(2 ^ 64) < i ∧ i < 2 ^ 64) : i.natAbs < 2 ^ 2000 := Nat.lt_of_lt_of_le (show i.natAbs < 2 ^ 64 by omega) (Nat.pow_le_pow_right (by decide) (by decide))
/-! the pen -/
def penL (ns : List Int) : List PD := if ns.headD 3 ≥ 10 ^ 18 then [.int (ns.headD 3 - 10 ^ 18), .int (ns.headD 3 % 2147483629), .int 1] else [.int 0, .int (ns.headD 3 % 2147483629), .int 1]
def R_pen (ds : List PD) (es : List PD) : Prop := ∃ ns : List Int, ns.length ≤ 1000 ∧ ds = [.list (ns.map .int), .int 0] ∧ es = penL ns
abbrev s__law_pen : Stmt := topS 56
theorem sc__law_pen : FnScope ["_law_script", "_law_k", "_law_cell"] ["_law_script", "_law_k"] (defScope s__law_pen) := ⟨rfl, rfl, rfl, by decide +kernel, rfl, by decide +kernel, by decide +kernel⟩
theorem ok__law_pen (D : Df K mg "_law_pen" s__law_pen ["_law_script", "_law_k"]) (T : Txt mg) : Cal P w K mg base 1 "_law_pen" ["_law_script", "_law_k"] (SpO K R_pen) := by
  refine Cal.ofO D sc__law_pen (by decide) (fun ds d h => by obtain ⟨ns, _, rfl, _⟩ := h; rfl) (fun f cdv A outer s H E hr ds d h => ?_)
  obtain ⟨ns, hns, rfl, rfl⟩ := h
  refine ⟨_, (pss_cons (ps_set (i := 2) sc__law_pen.nd rfl (.inl rfl) (pe_op op_add (pe_op op_add (pe_op op_mulW (pe_op op_mulW pe_int (pv 1)) (pv 1)) (pe_op op_mulW pe_int (pv 1))) pe_int))
      (pss_cons (ps_if (pt_cmpR op_lt (pv 1) (pe_callB call_len_seq (by rfl) T.z_len boot_len (pa_cons (pv 0) pa_nil)) (nomark _)) (pss_one (ps_set (i := 2) sc__law_pen.nd rfl (.inl rfl) (pe_ix (ix_listK (K := K) rfl) (pv 0) (pv 1) (fun _ _ => rfl)))) (pss_one (ps_if (pt_cmpR op_gt (pe_callB call_len_seq (by rfl) T.z_len boot_len (pa_cons (pv 0) pa_nil)) pe_int (nomark _)) (pss_one (ps_set (i := 2) sc__law_pen.nd rfl (.inl rfl) (pe_op op_add (pe_op op_mdN (pe_ix (ix_listK (K := K) rfl) (pv 0) (pe_op op_mdN (pe_op op_mulW (pv 1) pe_int) (pe_callB call_len_seq (by rfl) T.z_len boot_len (pa_cons (pv 0) pa_nil))) (fun _ _ => rfl)) (pe_op op_pow pe_int pe_int)) (pe_op op_mulW pe_int (pv 1))))) pss_nil)))
      (pss_cons (ps_if (pt_cmpR op_ge (pv 2) (pe_op op_pow pe_int pe_int) (nomark _)) (pss_one (ps_ret (pe_lst (pa_cons (pe_op op_sub (pv 2) (pe_op op_pow pe_int pe_int)) (pa_cons (pe_op op_add (pe_op op_mdN (pv 2) pe_int) (pv 1)) (pa_cons pe_int pa_nil)))))) pss_nil)
      (pss_one (ps_ret (pe_lst (pa_cons pe_int (pa_cons (pe_op op_add (pe_op op_mdN (pv 2) pe_int) (pe_op op_mulW pe_int (pv 1))) (pa_cons pe_int pa_nil))))))))), ?_⟩
  have pw18 : ∀ {B : Hp} {G : List Sl}, Ev K B (tOp (rI CPow fun i j => .int (i ^ j.toNat)) (tC (.int 10)) (tC (.int 18))) G (.int (10 ^ 18)) := fun {B G} => ev_op ev_int.p ev_int.p (op_iC ⟨by decide, by decide, by decide⟩)
  refine s_seq (s_set ((ev_op (ev_op (ev_op (ev_op ev_int.p (ev_var rfl).p (op_iC (mulW (by decide) (by decide)))).p (ev_var rfl).p (op_iC (mulW (by decide) (by decide)))).p (ev_op ev_int.p (ev_var rfl).p (op_iC (mulW (by decide) (by decide)))).p op_i0).p ev_int.p op_i0).is (x := .int 3) rfl) ?_)
  refine s_seqM (M := fun G => G = [.im (.list (ns.map .int)), .im (.int 0), .im (.int (ns.headD 3))]) (s_if (et_test (ev_op (ev_var rfl).p (ev_len (ev_var rfl).p).p op_ib)) (fun hb => ?_) (fun hb => ?_)) ?_
  · cases ns with
    | nil => simp at hb
    | cons x r => exact s_set (ev_ixL (ev_var rfl) (ev_var rfl).p (d := .int x) (atI_nat (j := 0) rfl)) rfl
  · cases ns with
    | cons x r => simp at hb
    | nil => exact s_if (b := false) ((et_test (ev_op (ev_len (ev_var rfl).p).p ev_int.p op_ib)).is rfl) (fun z => nomatch z) (fun _ => s_next rfl)
  · rintro G rfl
    generalize hc : ns.headD 3 = c
    have hmod : ∀ {B : Hp} {G : List Sl}, G[2]? = some (.im (.int c)) → Ev K B (tOp (rI (fun _ j => 0 < j) fun i j => .int (i % j)) (tVar 2) (tC (.int 2147483629))) G (.int (c % 2147483629)) := fun h => ev_op (ev_var h).p ev_int.p (op_iC (by decide))
    refine s_seq (s_if (et_test (ev_op (ev_var rfl).p pw18.p op_ib)) (fun hb => s_retO (eo_lst (eap_cons (ev_op (ev_var rfl).p pw18.p op_i0).p (eap_cons (ev_op (hmod rfl).p (ev_var rfl).p op_i0).p (eap_cons ev_int.p eap_nil)))) rfl ?_) (fun hb => s_next (s_retO (eo_lst (eap_cons ev_int.p (eap_cons (ev_op (hmod rfl).p (ev_op ev_int.p (ev_var rfl).p (op_iC (mulW (by decide) (by decide)))).p op_i0).p (eap_cons ev_int.p eap_nil)))) rfl ?_)))
    · have : c ≥ 10 ^ 18 := of_decide_eq_true hb
      unfold penL
      rw [hc, if_pos this, Int.add_zero]
    · have : ¬ c ≥ 10 ^ 18 := of_decide_eq_false hb
      unfold penL
      rw [hc, if_neg this]
      simp
def dl (a : Addr) (H : Hp) : Hp := fun x => if x = a then none else H x
theorem dl_self {a : Addr} {H : Hp} : dl a H a = none := by unfold dl; rw [if_pos rfl]
theorem dl_same {a : Addr} {H : Hp} : Same (dl a H) H := fun x o e => by
  unfold dl at e
  split at e
  · cases e
  · exact e
theorem dl_ne {a x : Addr} {H : Hp} (h : x ≠ a) : dl a H x = H x := by unfold dl; rw [if_neg h]
def Pen (H : Hp) (a : Addr) (m : Nat) : Prop := ∃ x y z : Int, H a = some (.lst [.int x, .int y, .int z]) ∧ 0 ≤ z ∧ z + (m : Int) ≤ 1000000
def Fm (K : PySem.W.Frag) (a : Addr) (H H' : Hp) : Prop := Same (dl a H) H' ∧ Ts K H H'
theorem Pen.mono {H : Hp} {a : Addr} {m k : Nat} (h : Pen H a m) (hk : k ≤ m) : Pen H a k := by
  obtain ⟨x, y, z, h1, h2, h3⟩ := h
  exact ⟨x, y, z, h1, h2, by omega⟩
def SpM (K : PySem.W.Frag) (k : Nat) (R : List PD → (PD → Prop) → Prop) : Sp := fun vs H Q _ => ∃ (a : Addr) (rest : List V) (ds : List PD) (Φ : PD → Prop) (m : Nat), vs = .ref a :: rest ∧ Pen H a (m + k) ∧ DpAll K (dl a H) rest ds ∧ R ds Φ ∧
  ∀ v d H', Φ d → noL d = true → Pen H' a m → Fm K a H H' → Dp K H' v d → Q v H'
def R_take (ds : List PD) (Φ : PD → Prop) : Prop := ∃ many : Int, 0 < many ∧ many ≤ 1000 ∧ ds = [.int many] ∧ Φ = fun d => ∃ i : Int, d = .int i ∧ 0 ≤ i ∧ i < many
theorem pen_end {H' : Hp} {σ : L2.St} {a : Addr} {x y z : Int} {m : Nat} (I : Env K B H' σ G) (h0 : G[0]? = some (.ow a [.int x, .int y, .int z])) (hz : 0 ≤ z) (hm : z + (m : Int) ≤ 1000000) : Pen H' a m := by
  obtain ⟨_, _, xs, h1, h2⟩ := I.own_at h0
  have := ints_of (ns := [x, y, z]) (h2.dp I.sm)
  subst this
  exact ⟨x, y, z, h1, hz, hm⟩
abbrev s__law_take : Stmt := topS 57
theorem sc__law_take : FnScope ["_law_pen_here", "_law_many", "_law_digit", "_law_number_here"] ["_law_pen_here", "_law_many"] (defScope s__law_take) := ⟨rfl, rfl, rfl, by decide +kernel, rfl, by decide +kernel, by decide +kernel⟩
theorem ok__law_take (D : Df K mg "_law_take" s__law_take ["_law_pen_here", "_law_many"]) (T : Txt mg) : Cal P w K mg base 1 "_law_take" ["_law_pen_here", "_law_many"] (SpM K 1 R_take) := by
  refine Cal.of D sc__law_take (fun vs H Q E h => ?_) (fun f cdv A outer s H vs Q E hr h => ?_)
  · obtain ⟨a, rest, ds, Φ, m, rfl, _, hd, ⟨many, _, _, rfl, _⟩, _⟩ := h
    have := (dpa_iff.mp hd).1
    simp at this
    simp [this]
  obtain ⟨a, rest, ds, Φ, m, rfl, ⟨x, y, z, hp, hz, hzm⟩, hd, ⟨many, hm0, hm1, rfl, rfl⟩, q⟩ := h
  cases hd with
  | cons h1 h2 =>
    cases h1; cases h2
    refine ⟨_, (pss_cons (ps_if (pt_cmpR op_gt (pe_ix (ix_listK (K := K) rfl) (pv 0) pe_int (fun _ _ => rfl)) pe_int (nomark _)) (pss_cons (ps_set (i := 2) sc__law_take.nd rfl (.inl rfl) (pe_op op_mdN (pe_ix (ix_listK (K := K) rfl) (pv 0) pe_int (fun _ _ => rfl)) (pv 1)))
      (pss_cons (ps_asg (pe_op op_fdN (pe_ix (ix_listK (K := K) rfl) (pv 0) pe_int (fun _ _ => rfl)) (pv 1)) (pg_sub (pv 0) pe_int set_list))
      (pss_one (ps_ret (pv 2))))) pss_nil)
      (pss_cons (ps_asg (pe_op op_add (pe_ix (ix_listK (K := K) rfl) (pv 0) pe_int (fun _ _ => rfl)) pe_int) (pg_sub (pv 0) pe_int set_list))
      (pss_cons (ps_set (i := 3) sc__law_take.nd rfl (.inl rfl) (pe_op op_mdN (pe_op op_mulW (pe_op op_mdN (pe_op op_add (pe_ix (ix_listK (K := K) rfl) (pv 0) pe_int (fun _ _ => rfl)) (pe_op op_mulW (pe_op op_mulW (pe_ix (ix_listK (K := K) rfl) (pv 0) pe_int (fun _ _ => rfl)) (pe_ix (ix_listK (K := K) rfl) (pv 0) pe_int (fun _ _ => rfl))) pe_int)) pe_int) pe_int) pe_int))
      (pss_cons (ps_set (i := 3) sc__law_take.nd rfl (.inl rfl) (pe_op op_mdN (pe_op op_add (pe_op op_add (pe_op op_mulW (pv 3) (pv 3)) (pe_op op_mulW pe_int (pv 3))) (pe_ix (ix_listK (K := K) rfl) (pv 0) pe_int (fun _ _ => rfl))) pe_int))
      (pss_one (ps_ret (pe_op op_mdN (pe_op op_fdN (pv 3) pe_int) (pv 1)))))))), ?_⟩
    have I0 : Env K (dl a H) H [some (.ref a), some (.int many), none, none] [.ow a [.int x, .int y, .int z], .im (.int many), .no, .no] := by
      refine ⟨dl_same, rfl, fun i v s h1 h2 => ?_, fun i j b es fs h1 h2 => ?_⟩
      · match i, h1, h2 with
        | 0, h1, h2 => simp at h1 h2; subst h1 h2; exact ⟨rfl, dl_self, _, hp, .cons (.base (.int _)) (.cons (.base (.int _)) (.cons (.base (.int _)) .nil))⟩
        | 1, h1, h2 => simp at h1 h2; subst h1 h2; exact ⟨_, rfl, .base (.int _)⟩
        | 2, h1, h2 => simp at h1 h2; subst h1 h2; trivial
        | 3, h1, h2 => simp at h1 h2; subst h1 h2; trivial
      · match i, j, h1, h2 with
        | 0, 0, _, _ => rfl
        | 0, 1, _, h2 => simp at h2
        | 0, 2, _, h2 => simp at h2
        | 0, 3, _, h2 => simp at h2
        | 0, j + 4, _, h2 => simp at h2
        | 1, _, h1, _ => simp at h1
        | 2, _, h1, _ => simp at h1
        | 3, _, h1, _ => simp at h1
        | i + 4, _, h1, _ => simp at h1
    have cdn : ∀ i, CDN i many := fun i => ⟨by omega, by
      have : many.natAbs < 2 ^ 20 := by omega
      exact Nat.lt_of_lt_of_le (PySem.Flt.log2_lt_of (by decide) this) (by decide)⟩
    have fin : ∀ {σ' : L2.St} {H1 H2 : Hp} {G' : List Sl} {x' y' z' : Int} {v : V} {i : Int}, Env K (dl a H) H1 σ' G' → Fr [.ow a [.int x, .int y, .int z], .im (.int many), .no, .no] G' H H1 → G'[0]? = some (.ow a [.int x', .int y', .int z']) → 0 ≤ z' → z' + (m : Int) ≤ 1000000 → Same H1 H2 → Dq K (dl a H) H2 v (.int i) → 0 ≤ i → i < many → Q v H2 := by
      intro σ' H1 H2 G' x' y' z' v i I f h0 hz' hm' e hv hi0 hi1
      exact q v (.int i) H2 ⟨i, rfl, hi0, hi1⟩ rfl (pen_end (I.ex e) h0 hz' hm') ⟨I.sm.trans e, Ts.trans (fun b xs h => f.sqt I0 h) (Ts.same e)⟩ (hv.dp (I.sm.trans e))
    unfold tSeq tIfS
    refine (et_test (ev_op (ev_ixV rfl ev_int.p rfl).p ev_int.p op_ib)) _ H I0 _ fun H1 e1 => ?_
    have I1 := I0.ex e1
    by_cases c : x > 0
    · rw [decide_eq_true c]
      have h : St K (dl a H) (tSeq (tAsg (tOp (rI (fun _ j => 0 < j) fun i j => .int (i % j)) (tOp (rIxL K) (tVar 0) (tC (.int 0))) (tVar 1)) (gName 2)) (tAsg (tOp (rI CDN fun i j => .int (i.fdiv j)) (tOp (rIxL K) (tVar 0) (tC (.int 0))) (tVar 1)) (gSub (tVar 0) (tC (.int 0)) rSetL))) [.ow a [.int x, .int y, .int z], .im (.int many), .no, .no] (fun G' => G' = [.ow a [.int (x.fdiv many), .int y, .int z], .im (.int many), .im (.int (x % many)), .no]) (fun _ => False) :=
        s_seq (s_set (ev_op (ev_ixV rfl ev_int.p rfl).p (ev_var rfl).p (op_iC hm0)) (s_setI (j := 0) rfl (ev_op (ev_ixV rfl ev_int.p rfl).p (ev_var rfl).p (op_iC (cdn x))) ev_int.p rfl rfl))
      exact h _ H1 _ I1 (fun σ' H' G' hG f I' => by
        subst hG
        exact (ev_var (i := 2) rfl) σ' H' I' _ fun v H2 e2 hv => fin I' ((Fr.same e1).trans f) rfl hz (by omega) e2 hv (Int.emod_nonneg _ (by omega)) (Int.emod_lt_of_pos _ hm0)) ⟨fun _ _ _ z => z.elim, fun _ _ _ _ z => z.elim⟩
    · rw [decide_eq_false c]
      have z1 : (z + 1).natAbs < 2 ^ 30 := by omega
      have n0 : ∀ i : Int, 0 ≤ i % 2147483629 ∧ i % 2147483629 < 2147483629 := fun i => ⟨Int.emod_nonneg _ (by decide), Int.emod_lt_of_pos _ (by decide)⟩
      have n1 : ∀ i : Int, 0 ≤ i % 2147483587 ∧ i % 2147483587 < 2147483587 := fun i => ⟨Int.emod_nonneg _ (by decide), Int.emod_lt_of_pos _ (by decide)⟩
      have mz : (z + 1).natAbs < 2 ^ 2000 := Nat.lt_of_lt_of_le z1 (Nat.pow_le_pow_right (by decide) (by decide))
      have mzz : ((z + 1) * (z + 1)).natAbs < 2 ^ 2000 := Nat.lt_of_lt_of_le (wide_lt z1 z1) (Nat.pow_le_pow_right (by decide) (by decide))
      let w0 : Int := (y + (z + 1) * (z + 1) * 7919) % 2147483629 * 48271 % 2147483587
      have hw0 := n1 ((y + (z + 1) * (z + 1) * 7919) % 2147483629 * 48271)
      have mw0 : w0.natAbs < 2 ^ 2000 := sm64 (i := (y + (z + 1) * (z + 1) * 7919) % 2147483629 * 48271 % 2147483587) ⟨by omega, by omega⟩
      have pz : ∀ {B : Hp} {G : List Sl} {s1 s2 s3 : Sl}, Ev K (dl a H) (tOp (rIxL K) (tVar 0) (tC (.int 2))) [.ow a [.int x, .int y, .int (z + 1)], s1, s2, s3] (.int (z + 1)) := fun {B G s1 s2 s3} => ev_ixV rfl ev_int.p rfl
      have py : ∀ {B : Hp} {G : List Sl} {s1 s2 s3 : Sl}, Ev K (dl a H) (tOp (rIxL K) (tVar 0) (tC (.int 1))) [.ow a [.int x, .int y, .int (z + 1)], s1, s2, s3] (.int y) := fun {B G s1 s2 s3} => ev_ixV rfl ev_int.p rfl
      have h : St K (dl a H) (tSeq (tAsg (tOp (rI0 fun i j => .int (i + j)) (tOp (rIxL K) (tVar 0) (tC (.int 2))) (tC (.int 1))) (gSub (tVar 0) (tC (.int 2)) rSetL)) (tSeq
          (tAsg (tOp (rI (fun _ j => 0 < j) fun i j => .int (i % j)) (tOp (rI CMulW fun i j => .int (i * j)) (tOp (rI (fun _ j => 0 < j) fun i j => .int (i % j)) (tOp (rI0 fun i j => .int (i + j)) (tOp (rIxL K) (tVar 0) (tC (.int 1))) (tOp (rI CMulW fun i j => .int (i * j)) (tOp (rI CMulW fun i j => .int (i * j)) (tOp (rIxL K) (tVar 0) (tC (.int 2))) (tOp (rIxL K) (tVar 0) (tC (.int 2)))) (tC (.int 7919)))) (tC (.int 2147483629))) (tC (.int 48271))) (tC (.int 2147483587))) (gName 3))
          (tAsg (tOp (rI (fun _ j => 0 < j) fun i j => .int (i % j)) (tOp (rI0 fun i j => .int (i + j)) (tOp (rI0 fun i j => .int (i + j)) (tOp (rI CMulW fun i j => .int (i * j)) (tVar 3) (tVar 3)) (tOp (rI CMulW fun i j => .int (i * j)) (tC (.int 69621)) (tVar 3))) (tOp (rIxL K) (tVar 0) (tC (.int 2)))) (tC (.int 2147483563))) (gName 3))))
          [.ow a [.int x, .int y, .int z], .im (.int many), .no, .no] (fun G' => G' = [.ow a [.int x, .int y, .int (z + 1)], .im (.int many), .no, .im (.int ((w0 * w0 + 69621 * w0 + (z + 1)) % 2147483563))]) (fun _ => False) :=
        s_seq (s_setI (j := 2) rfl (ev_op (ev_ixV rfl ev_int.p rfl).p ev_int.p op_i0) ev_int.p rfl (s_seq (s_set (d := .int w0) (ev_op (ev_op (ev_op (ev_op (py (B := H) (G := [])).p (ev_op (ev_op (pz (B := H) (G := [])).p (pz (B := H) (G := [])).p (op_iC (mulW mz mz))).p ev_int.p (op_iC (mulW mzz (by decide)))).p op_i0).p ev_int.p (op_iC (by decide))).p ev_int.p (op_iC (mulW (sm64 (by have := n0 (y + (z + 1) * (z + 1) * 7919); omega)) (by decide)))).p ev_int.p (op_iC (by decide)))
          (s_set (ev_op (ev_op (ev_op (ev_op (ev_var rfl).p (ev_var rfl).p (op_iC (mulW mw0 mw0))).p (ev_op ev_int.p (ev_var rfl).p (op_iC (mulW (by decide) mw0))).p op_i0).p (pz (B := H) (G := [])).p op_i0).p ev_int.p (op_iC (by decide))) rfl))))
      exact h _ H1 _ I1 (fun σ' H' G' hG f I' => by
        subst hG
        have c7 : ∀ i, CDN i 7 := fun i => ⟨by decide, by decide⟩
        have er : Ev K (dl a H) (tOp (rI (fun _ j => 0 < j) fun i j => .int (i % j)) (tOp (rI CDN fun i j => .int (i.fdiv j)) (tVar 3) (tC (.int 7))) (tVar 1)) [.ow a [.int x, .int y, .int (z + 1)], .im (.int many), .no, .im (.int ((w0 * w0 + 69621 * w0 + (z + 1)) % 2147483563))] (.int (((w0 * w0 + 69621 * w0 + (z + 1)) % 2147483563).fdiv 7 % many)) :=
          ev_op (ev_op (ev_var rfl).p ev_int.p (op_iC (c7 _))).p (ev_var rfl).p (op_iC hm0)
        exact er σ' H' I' _ fun v H2 e2 hv => fin I' ((Fr.same e1).trans f) rfl (by omega) (by omega) e2 hv (Int.emod_nonneg _ (by omega)) (Int.emod_lt_of_pos _ hm0)) ⟨fun _ _ _ z => z.elim, fun _ _ _ _ z => z.elim⟩
end
end PF

-- P27
set_option linter.all false
set_option maxRecDepth 100000
set_option maxHeartbeats 4000000
namespace PF
open PySem PySem.Spec PyProof.Rows L2 LT
section
variable (K : PySem.W.Frag) (B : Hp) (a : Addr) (j : Nat)
structure EnvP (H : Hp) (σ : L2.St) (G : List Sl) (m : Nat) : Prop where
  env : Env K B H σ G
  na : ¬ Own G a
  ba : B a = none
  slot : G[j]? = some (.vl (.ref a))
  pen : Pen H a m
/-- an expression that may take from the pen, k times -/
def EvM (k : Nat) (te : TE) (G : List Sl) (Φ : PD → Prop) : Prop := ∀ σ H m, EnvP K B a j H σ G (m + k) → ∀ Q : VK, (∀ v d H', Φ d → EnvP K B a j H' σ G m → Fm K a H H' → Dq K B H' v d → Q v H') → te σ H Q
def EvMA (k : Nat) (ta : TA) (G : List Sl) (Φ : List PD → Prop) : Prop := ∀ σ H m, EnvP K B a j H σ G (m + k) → ∀ Q : List V → Hp → Prop, (∀ vs ds H', Φ ds → EnvP K B a j H' σ G m → Fm K a H H' → DqAll K B H' vs ds → Q vs H') → ta σ H Q
def EvMT (k : Nat) (tt : TT) (G : List Sl) : Prop := ∀ σ H m, EnvP K B a j H σ G (m + k) → ∀ Q : Bool → Hp → Prop, (∀ b H', EnvP K B a j H' σ G m → Fm K a H H' → Q b H') → tt σ H Q
def StM (t : TS) (G : List Sl) (m : Nat) (N : List Sl → Nat → Prop) (R : Rt → Nat → Prop) : Prop := ∀ σ H D, EnvP K B a j H σ G m →
  (∀ σ' H' G' m', N G' m' → EnvP K B a j H' σ' G' m' → Ts K H H' → D.nx σ' H') →
  (∀ v d H' m', R (.im d) m' → Pen H' a m' → Same B H' → Ts K H H' → Dq K B H' v d → D.rt v H') →
  (∀ b ds xs H' m', R (.ow ds) m' → b ≠ a → B b = none → H' b = some (.lst xs) → DqAll K B H' xs ds → Pen H' a m' → Same B H' → Ts K H H' → D.rt (.ref b) H') → t D σ H
end
section
variable {P : Program} {w : World} {K : PySem.W.Frag} {mg : Str → Option Value} {base : Heap} {B H H' : Hp} {a : Addr} {j k l m : Nat} {G : List Sl} {te tl ta tb tt td : TE} {tA : TA} {tc : TT} {t u : TS} {σ : L2.St} {d e : PD} {ds es : List PD} {Φ Ψ : PD → Prop} {N M : List Sl → Nat → Prop} {R : Rt → Nat → Prop}
theorem Fm.trans {H1 H2 : Hp} (x : Fm K a H H1) (y : Fm K a H1 H2) : Fm K a H H2 := ⟨fun b o h => by
  have h1 := x.1 b o h
  have hb : b ≠ a := by rintro rfl; rw [dl_self] at h; cases h
  exact y.1 b o (by rw [dl_ne hb]; exact h1), x.2.trans y.2⟩
theorem Fm.same (e : Same H H') : Fm K a H H' := ⟨dl_same.trans e, Ts.same e⟩
theorem Pen.ex (e : Same H H') (h : Pen H a m) : Pen H' a m := by
  obtain ⟨x, y, z, h1, h2⟩ := h
  exact ⟨x, y, z, e _ _ h1, h2⟩
theorem EnvP.mono (I : EnvP K B a j H σ G m) (hk : k ≤ m) : EnvP K B a j H σ G k := ⟨I.env, I.na, I.ba, I.slot, I.pen.mono hk⟩
theorem EnvP.ex (e : Same H H') (I : EnvP K B a j H σ G m) : EnvP K B a j H' σ G m := ⟨I.env.ex e, I.na, I.ba, I.slot, I.pen.ex e⟩
theorem EnvP.fm (I : EnvP K B a j H σ G m) (f : Fm K a H H') (p : Pen H' a k) : EnvP K B a j H' σ G k := by
  have same : ∀ b o, b ≠ a → H b = some o → H' b = some o := fun b o hb h => f.1 b o (by rw [dl_ne hb]; exact h)
  refine ⟨⟨fun b o h => same b o (by rintro rfl; rw [I.ba] at h; cases h) (I.env.sm b o h), I.env.len, fun i x s h1 h2 => ?_, I.env.nd⟩, I.na, I.ba, I.slot, p⟩
  have q := I.env.at_ i x s h1 h2
  cases s with
  | no => trivial
  | vl v => exact q
  | im d => obtain ⟨v, e, g⟩ := q; exact ⟨v, e, g.mono f.2⟩
  | ow b es =>
    obtain ⟨e1, e2, xs, e3, e4⟩ := q
    have : b ≠ a := by rintro rfl; exact I.na ⟨i, es, h2⟩
    exact ⟨e1, e2, xs, same b _ this e3, e4.mono f.2⟩
/-! expressions -/
theorem em_ev (h : Ev K B te G d) : EvM K B a j 0 te G (fun x => x = d) := fun σ H m I Q q => h σ H I.env Q fun v H' e hv => q v d H' rfl (I.ex e) (.same e) hv
theorem EvM.imp (h : EvM K B a j k te G Φ) (hi : ∀ d, Φ d → Ψ d) : EvM K B a j k te G Ψ := fun σ H m I Q q => h σ H m I Q fun v d H' hd => q v d H' (hi d hd)
theorem ema_nil : EvMA K B a j 0 tNil G (fun ds => ds = []) := fun σ H m I Q q => q [] [] H rfl I (.same (Same.refl H)) .nil
theorem ema_cons {Φs : List PD → Prop} (h : EvM K B a j k te G Φ) (hr : EvMA K B a j l tA G Φs) : EvMA K B a j (k + l) (tCons te tA) G (fun ds => ∃ d r, ds = d :: r ∧ Φ d ∧ Φs r) := fun σ H m I Q q =>
  h σ H (m + l) (I.mono (by omega)) _ fun v d H1 hd I1 f1 hv => hr σ H1 m I1 _ fun vs r H2 hr2 I2 f2 hvs => q _ _ H2 ⟨d, r, rfl, hd, hr2⟩ I2 (f1.trans f2) (.cons (hv.mono f2.2) hvs)
theorem em_op {r : R2} {X : PD → Prop} (ha : EvM K B a j k ta G Φ) (hb : EvM K B a j l tb G Ψ) (hr : ∀ d e, Φ d → Ψ e → ∃ x, Op K r d e x ∧ X x) : EvM K B a j (k + l) (tOp r ta tb) G X := fun σ H m I Q q =>
  ha σ H (m + l) (I.mono (by omega)) _ fun v1 d H1 hd I1 f1 h1 => hb σ H1 m I1 _ fun v2 e H2 he I2 f2 h2 => by
    obtain ⟨x, ho, hx⟩ := hr d e hd he
    exact ho H2 v1 v2 ((h1.mono f2.2).dp I2.env.sm) (h2.dp I2.env.sm) Q fun v hv => q v x H2 hx I2 (f1.trans f2) (.base (hv B))
theorem em_tup {Φs : List PD → Prop} (h : EvMA K B a j k tA G Φs) (hz : ∀ ds, Φs ds → ds.length ≤ 10) : EvM K B a j k (tTup tA) G (fun d => ∃ ds, d = .tuple ds ∧ Φs ds) := fun σ H m I Q q =>
  h σ H m I _ fun vs ds H1 hds I1 f1 h1 => ⟨by rw [h1.1]; exact Nat.le_trans (hz ds hds) (by decide), fun p hp => q _ (.tuple ds) _ ⟨ds, rfl, hds⟩ (I1.ex (same_new hp)) (f1.trans (.same (same_new hp))) (.tup (.of upd_same) (h1.ex (same_new hp)))⟩
theorem em_call {Rr : List PD → PD → Prop} {Φs : List PD → Prop} {E : XK} (h : EvMA K B a j k tA G Φs) (hR : ∀ ds, Φs ds → ∃ d, Rr ds d ∧ noL d = true ∧ Φ d) : EvM K B a j k (tCall (SpI K Rr) [] E tA) G Φ := fun σ H m I Q q =>
  h σ H m I _ fun vs ds H1 hds I1 f1 h1 => by
    obtain ⟨d, hr, hn, hp⟩ := hR ds hds
    rw [List.append_nil]
    exact ⟨ds, d, h1.dp I1.env.sm, hr, hn, fun v H2 e2 h2 => q v d H2 hp (I1.ex e2) (f1.trans (.same e2)) (dq_of hn h2)⟩
theorem ts_dl {x y z : V} (h : H a = some (.lst [x, y, z])) : Ts K H (dl a H) := fun b xs q => by
  rcases q with (q | ⟨ob, q⟩) | q
  · exact .inl (.inl (by rw [dl_ne (by rintro rfl; rw [h] at q; cases q)]; exact q))
  · exact .inl (.inr ⟨ob, by rw [dl_ne (by rintro rfl; rw [h] at q; cases q)]; exact q⟩)
  · exact .inr q
theorem Pen.ts (h : Pen H a m) : Ts K H (dl a H) := by
  obtain ⟨x, y, z, h1, _⟩ := h
  exact ts_dl h1
/-- a call that takes from the pen: its other arguments hold no lists -/
theorem em_pen {Rr : List PD → (PD → Prop) → Prop} {Φs : List PD → Prop} {E : XK} (h : EvMA K B a j l tA G Φs) (hR : ∀ ds, Φs ds → noL.noLs ds = true ∧ Rr ds Φ) : EvM K B a j (l + k) (tCall (SpM K k Rr) [] E (tCons (tVar j) tA)) G Φ := fun σ H m I Q q => by
  obtain ⟨x, e0, ex⟩ := I.env.slot I.slot
  cases (show x = some (V.ref a) from ex)
  refine ⟨_, e0, h σ H (m + k) (I.mono (by omega)) _ fun vs ds H1 hds I1 f1 h1 => ?_⟩
  obtain ⟨hn, hr⟩ := hR ds hds
  refine ⟨a, vs, ds, Φ, m, by simp, I1.pen, dpa_mono hn I1.pen.ts (h1.dp I1.env.sm), hr, fun v d H' hd hnd hp hf hv => q v d H' hd (I1.fm hf hp) (f1.trans hf) (dq_of hnd hv)⟩
theorem em_take {many : Int} {E : XK} (h0 : 0 < many) (h1 : many ≤ 1000) : EvM K B a j 1 (tCall (SpM K 1 R_take) [] E (tCons (tVar j) (tCons (tC (.int many)) tNil))) G (fun d => ∃ i : Int, d = .int i ∧ 0 ≤ i ∧ i < many) :=
  em_pen (l := 0 + 0) (k := 1) (Rr := R_take) (ema_cons (em_ev (ev_int (i := many))) ema_nil) fun ds hds => by
    obtain ⟨d, r, e1, e2, e3⟩ := hds
    subst e1 e2 e3
    exact ⟨rfl, many, h0, h1, rfl, rfl⟩
theorem em_takeL {n : Nat} {E : XK} (h : Ev K B te G (.int (n : Int))) (h0 : 0 < n) (h1 : n ≤ 1000) : EvM K B a j 1 (tCall (SpM K 1 R_take) [] E (tCons (tVar j) (tCons te tNil))) G (fun d => ∃ i : Nat, d = .int (i : Int) ∧ i < n) :=
  (em_pen (l := 0 + 0) (Rr := R_take) (k := 1) (Φ := fun d => ∃ i : Int, d = .int i ∧ 0 ≤ i ∧ i < (n : Int)) (ema_cons (em_ev h) ema_nil) fun ds hds => by
    obtain ⟨d, r, e1, e2, e3⟩ := hds
    subst e1 e2 e3
    exact ⟨rfl, (n : Int), by omega, by omega, rfl, rfl⟩).imp fun d hd => by
    obtain ⟨i, e, i0, i1⟩ := hd
    obtain ⟨i', rfl⟩ := Int.eq_ofNat_of_zero_le i0
    exact ⟨i', e, by omega⟩
/-! statements -/
theorem EnvP.set_im {i : Nat} {v : V} (hi : i ≠ j) (I : EnvP K B a j H σ G m) (hv : Dq K B H v d) : EnvP K B a j H (σ.set i (some v)) (G.set i (.im d)) m :=
  ⟨I.env.set_im i hv, fun z => I.na (own_set_im z), I.ba, by rw [List.getElem?_set_ne hi]; exact I.slot, I.pen⟩
theorem m_seq (h : StM K B a j t G m (fun G' m' => StM K B a j u G' m' N R) R) : StM K B a j (tSeq t u) G m N R := fun σ H D I q r o =>
  h σ H { D with nx := u D } I (fun σ' H' G' m' st I' ts => st σ' H' D I' (fun σ2 H2 G2 m2 n2 I2 t2 => q σ2 H2 G2 m2 n2 I2 (ts.trans t2)) (fun v d H2 m2 hR hp hs t2 hv => r v d H2 m2 hR hp hs (ts.trans t2) hv) (fun b ds xs H2 m2 hR hb hB hx hd hp hs t2 => o b ds xs H2 m2 hR hb hB hx hd hp hs (ts.trans t2))) r o
theorem m_mono (h : StM K B a j t G m M R) (k : ∀ G' m', M G' m' → N G' m') : StM K B a j t G m N R := fun σ H D I q r o => h σ H D I (fun σ' H' G' m' n => q σ' H' G' m' (k G' m' n)) r o
theorem m_seqM (h : StM K B a j t G m M R) (k : ∀ G' m', M G' m' → StM K B a j u G' m' N R) : StM K B a j (tSeq t u) G m N R := m_seq (m_mono h k)
theorem m_next (h : N G m) : StM K B a j tNext G m N R := fun σ H D I q r o => q σ H G m h I Ts.refl
theorem m_set {i : Nat} (h : EvM K B a j k te G Φ) (hk : k ≤ m) (hi : i ≠ j) (kk : ∀ d, Φ d → N (G.set i (.im d)) (m - k)) : StM K B a j (tAsg te (gName i)) G m N R := fun σ H D I q r o =>
  h σ H (m - k) (I.mono (by omega)) _ fun v d H1 hd I1 f1 hv => q _ H1 _ _ (kk d hd) (I1.set_im hi hv) f1.2
theorem m_setO {i : Nat} (h : EvO K B te G ds) (n : noL.noLs ds = true) (hi : i ≠ j) (kk : ∀ b, N (G.set i (.ow b ds)) m) : StM K B a j (tAsg te (gName i)) G m N R := fun σ H D I q r o =>
  h σ H I.env _ fun b H1 xs hn e1 hb g => by
    have hB : B b = none := same_there I.env.sm b hn
    have ho : ¬ Own G b := fun z => by
      obtain ⟨xs, e⟩ := I.env.own_some z
      rw [hn] at e; cases e
    have hba : a ≠ b := by
      obtain ⟨x, y, z, hp, _⟩ := I.pen
      rintro rfl; rw [hn] at hp; cases hp
    refine q _ H1 _ _ (kk b) ⟨(I.env.ex e1).set_ow i hB hb (dqa_of n g) ho, fun z => ?_, I.ba, by rw [List.getElem?_set_ne hi]; exact I.slot, I.pen.ex e1⟩ (Ts.same e1)
    rcases own_set_ow z with z | z
    · exact hba z
    · exact I.na z
theorem m_if {b : Bool} (h : EvT K B tc G b) (h1 : b = true → StM K B a j t G m N R) (h2 : b = false → StM K B a j u G m N R) : StM K B a j (tIfS tc t u) G m N R := fun σ H D I q r o =>
  h σ H I.env _ fun H1 e1 => by
    have tt : ∀ {H'}, Ts K H1 H' → Ts K H H' := fun t => (Ts.same e1).trans t
    cases b with
    | true => exact h1 rfl σ H1 D (I.ex e1) (fun σ' H' G' m' n I' t2 => q σ' H' G' m' n I' (tt t2)) (fun v d H2 m2 hR hp hs t2 hv => r v d H2 m2 hR hp hs (tt t2) hv) (fun b ds xs H2 m2 hR hb hB hx hd hp hs t2 => o b ds xs H2 m2 hR hb hB hx hd hp hs (tt t2))
    | false => exact h2 rfl σ H1 D (I.ex e1) (fun σ' H' G' m' n I' t2 => q σ' H' G' m' n I' (tt t2)) (fun v d H2 m2 hR hp hs t2 hv => r v d H2 m2 hR hp hs (tt t2) hv) (fun b ds xs H2 m2 hR hb hB hx hd hp hs t2 => o b ds xs H2 m2 hR hb hB hx hd hp hs (tt t2))
theorem m_ifM (h : EvMT K B a j k tc G) (hk : k ≤ m) (h1 : StM K B a j t G (m - k) N R) (h2 : StM K B a j u G (m - k) N R) : StM K B a j (tIfS tc t u) G m N R := fun σ H D I q r o =>
  h σ H (m - k) (I.mono (by omega)) _ fun b H1 I1 f1 => by
    have tt : ∀ {H'}, Ts K H1 H' → Ts K H H' := fun t => f1.2.trans t
    cases b with
    | true => exact h1 σ H1 D I1 (fun σ' H' G' m' n I' t2 => q σ' H' G' m' n I' (tt t2)) (fun v d H2 m2 hR hp hs t2 hv => r v d H2 m2 hR hp hs (tt t2) hv) (fun b ds xs H2 m2 hR hb hB hx hd hp hs t2 => o b ds xs H2 m2 hR hb hB hx hd hp hs (tt t2))
    | false => exact h2 σ H1 D I1 (fun σ' H' G' m' n I' t2 => q σ' H' G' m' n I' (tt t2)) (fun v d H2 m2 hR hp hs t2 hv => r v d H2 m2 hR hp hs (tt t2) hv) (fun b ds xs H2 m2 hR hb hB hx hd hp hs t2 => o b ds xs H2 m2 hR hb hB hx hd hp hs (tt t2))
theorem m_ret (h : EvM K B a j k te G Φ) (hk : k ≤ m) (kk : ∀ d, Φ d → R (.im d) (m - k)) : StM K B a j (tRet te) G m N R := fun σ H D I q r o =>
  h σ H (m - k) (I.mono (by omega)) _ fun v d H1 hd I1 f1 hv => r v d H1 _ (kk d hd) I1.pen I1.env.sm f1.2 hv
theorem m_retV {i : Nat} {b : Addr} (hs : G[i]? = some (.ow b ds)) (kk : R (.ow ds) m) : StM K B a j (tRet (tVar i)) G m N R := fun σ H D I q r o => by
  obtain ⟨h1, h2, xs, h3, h4⟩ := I.env.own_at hs
  exact ⟨_, h1, o b ds xs H m kk (by rintro rfl; exact I.na ⟨i, ds, hs⟩) h2 h3 h4 I.pen I.env.sm Ts.refl⟩
theorem m_app {i : Nat} {b : Addr} (hi : i ≠ j) (hs : G[i]? = some (.ow b ds)) (h : Ev K B te G d) (hz : ds.length < sizeLine) (kk : N (G.set i (.ow b (ds ++ [d]))) m) :
    StM K B a j (tDrop (tBM K "list" rAppend (tVar i) (tCons te tNil))) G m N R := fun σ H D I q r o => by
  obtain ⟨h1, h2, xs, h3, h4⟩ := I.env.own_at hs
  refine ⟨_, h1, .inl ⟨rfl, xs, .of h3⟩, h σ H I.env _ fun v H1 e1 g => ⟨b, xs, v, rfl, rfl, e1 _ _ h3, by rw [h4.1]; exact hz, ?_⟩⟩
  have hba : a ≠ b := by rintro rfl; exact I.na ⟨i, ds, hs⟩
  refine q σ _ _ m kk ⟨(I.env.ex e1).upd hs ((h4.ex e1).snoc g), fun z => ?_, I.ba, by rw [List.getElem?_set_ne hi]; exact I.slot, ?_⟩ ((Ts.same e1).trans (fun x ys hq => upd_sqt (e1 _ _ h3) x ys hq))
  · rcases own_set_ow z with z | z
    · exact hba z
    · exact I.na z
  · obtain ⟨x, y, z, hp, hq⟩ := I.pen
    exact ⟨x, y, z, by rw [upd_ne hba]; exact e1 _ _ hp, hq⟩
theorem m_for {i : Nat} (h : EvMA K B a j k tA G (fun ds => ∃ n : Nat, ds = [.int (n : Int)] ∧ n ≤ l)) (hk : k ≤ m) (hl : l ≤ 1000) (hi : i ≠ j) (W : Nat → List Sl → Nat → Prop) (h0 : W 0 G (m - k)) (hs : ∀ (x : Nat) G' m', x < l → W x G' m' → StM K B a j t (G'.set i (.im (.int (x : Int)))) m' (W (x + 1)) R) (hd : ∀ x G' m', x ≤ l → W x G' m' → N G' m') :
    StM K B a j (tFor (iRng1 tA) (gName i) t) G m N R := fun σ H D I q r o =>
  h σ H (m - k) (I.mono (by omega)) _ fun vs ds H1 ⟨n, e, hn⟩ I1 f1 hv => by
    subst e
    have hv' := hv.dp I1.env.sm
    cases hv' with
    | cons g1 g2 =>
      cases g1; cases g2
      refine ⟨n, rfl, by omega, by omega, ?_⟩
      refine for_range (lo := 0) (n := (n : Int).toNat) (fun x σ' H' => ∃ G' m', W x G' m' ∧ EnvP K B a j H' σ' G' m' ∧ Ts K H1 H') ⟨G, m - k, h0, I1, Ts.refl⟩ ?_ ?_
      · rintro x σ' H' hx ⟨G', m', wv, I', ts⟩
        have := hs x G' m' (by omega) wv
        rw [Int.zero_add]
        exact this _ H' _ (I'.set_im hi (.base (.int _))) (fun σ2 H2 G2 m2 w2 I2 t2 => ⟨G2, m2, w2, I2, ts.trans t2⟩) (fun v d H2 m2 hR hp hs t2 hv => r v d H2 m2 hR hp hs ((f1.2.trans ts).trans t2) hv) (fun b ds xs H2 m2 hR hb hB hx hd hp hs t2 => o b ds xs H2 m2 hR hb hB hx hd hp hs ((f1.2.trans ts).trans t2))
      · rintro σ' H' ⟨G', m', wv, I', ts⟩
        exact q σ' H' G' m' (hd n G' m' hn (by simpa using wv)) I' (f1.2.trans ts)
/-- own list, a line of it -/
theorem em_ixV {i n : Nat} {b : Addr} (hs : G[i]? = some (.ow b ds)) (h : EvM K B a j k te G (fun d => ∃ x : Nat, d = .int (x : Int) ∧ x < n)) (hn : n = ds.length) : EvM K B a j k (tOp (rIxL K) (tVar i) te) G (fun d => d ∈ ds) := fun σ H m I Q q => by
  obtain ⟨h1, _⟩ := I.env.own_at hs
  refine ⟨_, h1, h σ H m I _ fun v2 d2 H2 ⟨x, hx, hlt⟩ I2 f2 h5 => ?_⟩
  subst hx
  have h5' := h5.dp I2.env.sm
  cases h5'
  obtain ⟨_, h2, xs, h3, h4⟩ := I2.env.own_at hs
  have hi : ds[x]? = some ds[x] := List.getElem?_eq_getElem (by omega)
  obtain ⟨v, h6, h7⟩ := atI_dq h4 (atI_nat hi)
  exact ⟨b, xs, (x : Int), v, rfl, rfl, .of h3, h6, q v ds[x] H2 (List.getElem_mem _) I2 f2 h7⟩
theorem em_ixI {i n : Nat} (hs : G[i]? = some (.im (.list ds))) (h : EvM K B a j k te G (fun d => ∃ x : Nat, d = .int (x : Int) ∧ x < n)) (hn : n = ds.length) : EvM K B a j k (tOp (rIxL K) (tVar i) te) G (fun d => d ∈ ds) := fun σ H m I Q q => by
  obtain ⟨x0, h1, v0, e0, g0⟩ := I.env.slot hs
  subst e0
  refine ⟨_, h1, h σ H m I _ fun v2 d2 H2 ⟨x, hx, hlt⟩ I2 f2 h5 => ?_⟩
  subst hx
  have h5' := h5.dp I2.env.sm
  cases h5'
  have hl := g0.lst_inv
  cases hl with
  | @lst p xs _ hs' hd =>
    obtain ⟨l', k'⟩ := dpa_iff.mp hd
    have hi : ds[x]? = some ds[x] := List.getElem?_eq_getElem (by omega)
    have hq : DqAll K B H2 xs ds := ⟨l', fun n v e x1 x2 => .base (k' n v e x1 x2)⟩
    obtain ⟨v, h6, h7⟩ := atI_dq hq (atI_nat hi)
    exact ⟨p, xs, (x : Int), v, rfl, rfl, sql_ex I2.env.sm hs', h6, q v ds[x] H2 (List.getElem_mem _) I2 f2 h7⟩
theorem em_ixT {i : Int} (h : EvM K B a j k te G (fun d => ∃ es, d = .tuple es ∧ ∃ x, atI es i = some x ∧ Φ x)) : EvM K B a j k (tOp (rIxT K) te (tC (.int i))) G Φ := fun σ H m I Q q =>
  h σ H m I _ fun v d H1 ⟨es, e, x, hx, hp⟩ I1 f1 hv => by
    subst e
    obtain ⟨p, xs, rfl, h3, h4⟩ := hv.tup_inv I1.env.sm
    obtain ⟨v, h5, h6⟩ := atI_dq h4 hx
    exact ⟨p, xs, i, v, rfl, rfl, h3, h5, q v x H1 hp I1 f1 h6⟩
/-- a def's body -/
theorem env_pen {vs : List V} {n : Nat} (p : Pen H a m) (h : DpAll K (dl a H) vs ds) : EnvP K (dl a H) a 0 H (some (.ref a) :: (vs.map some ++ List.replicate n none)) (.vl (.ref a) :: (ds.map .im ++ List.replicate n .no)) m := by
  obtain ⟨l, k⟩ := dpa_iff.mp h
  have no : ∀ (i : Nat) (b : Addr) (es : List PD), (Sl.vl (.ref a) :: (ds.map Sl.im ++ List.replicate n Sl.no))[i]? ≠ some (Sl.ow b es) := fun i b es h1 => by
    cases i with
    | zero => simp at h1
    | succ i =>
      simp only [List.getElem?_cons_succ] at h1
      have := List.mem_of_getElem? h1
      rcases List.mem_append.mp this with z | z
      · obtain ⟨_, _, z⟩ := List.mem_map.mp z
        cases z
      · have := (List.mem_replicate.mp z).2
        cases this
  refine ⟨⟨dl_same, by simp [l], fun i x s h1 h2 => ?_, fun i j b es fs h1 h2 => absurd h1 (no i b es)⟩, fun ⟨i, es, h1⟩ => no i a es h1, dl_self, rfl, p⟩
  cases i with
  | zero => simp at h1 h2; subst h1 h2; rfl
  | succ i =>
    simp only [List.getElem?_cons_succ] at h1 h2
    by_cases c : i < vs.length
    · rw [List.getElem?_append_left (by simpa using c), List.getElem?_map] at h1
      rw [List.getElem?_append_left (by simp; omega), List.getElem?_map] at h2
      obtain ⟨v, e1, rfl⟩ := Option.map_eq_some_iff.mp h1
      obtain ⟨d, e2, rfl⟩ := Option.map_eq_some_iff.mp h2
      exact ⟨v, rfl, .base (k i v d e1 e2)⟩
    · rw [List.getElem?_append_right (by simp; omega)] at h2
      have := List.mem_of_getElem? h2
      have := (List.mem_replicate.mp this).2
      subst this
      trivial
theorem goM {Q : VK} (I : EnvP K (dl a H) a 0 H σ G (m + k)) (h : StM K (dl a H) a 0 t G (m + k) (fun _ _ => False) (fun r m' => m ≤ m' ∧ ∃ d, r = .im d ∧ noL d = true ∧ Φ d)) (q : ∀ v d H', Φ d → noL d = true → Pen H' a m → Fm K a H H' → Dp K H' v d → Q v H') :
    t { nx := fun _ H' => Q .non H', rt := Q } σ H :=
  h σ H _ I (fun _ _ _ _ z => z.elim) (fun v d H' m' ⟨hm, d', e, hn, hp⟩ hpen hs ts hv => by cases e; exact q v d H' hp hn (hpen.mono hm) ⟨hs, ts⟩ (hv.dp hs)) (fun _ _ _ _ _ ⟨_, _, e, _⟩ => by cases e)
/-! number -/
theorem sz_small {i b : Int} (hb : 0 < b) (h1 : i.natAbs < 1000) (h2 : b < 1000) : Sz 10 (Rat.divInt i b) := sz_div (by omega) (by show _ < 1024; omega) (by show _ < 1024; omega)
theorem nm_int (i : Int) : nm (Rat.divInt i 1) = .tuple [.int i, .int 1] := by
  obtain ⟨p1, p2⟩ := divInt_parts (t := i) (b := 1) (by decide)
  simp at p1 p2
  unfold nm
  rw [p1, p2]
def Num (d : PD) : Prop := ∃ q : Rat, d = nm q ∧ Sz 10 q
def R_number (ds : List PD) (Φ : PD → Prop) : Prop := ∃ kd : Int, ds = [.int kd] ∧ Φ = Num
abbrev s__law_number : Stmt := topS 61
theorem sc__law_number : FnScope ["_law_pen_here", "_law_kind"] ["_law_pen_here", "_law_kind"] (defScope s__law_number) := ⟨rfl, rfl, rfl, by decide +kernel, rfl, by decide +kernel, by decide +kernel⟩
theorem ok__law_number (D : Df K mg "_law_number" s__law_number ["_law_pen_here", "_law_kind"]) (C__law_take : Cal P w K mg base 1 "_law_take" ["_law_pen_here", "_law_many"] (SpM K 1 R_take)) (C__law_lowest : Cal P w K mg base 1 "_law_lowest" ["_law_top", "_law_bottom"] (SpI K R_lowest)) :
    Cal P w K mg base 2 "_law_number" ["_law_pen_here", "_law_kind"] (SpM K 2 R_number) := by
  refine Cal.of D sc__law_number (fun vs H Q E h => ?_) (fun f cdv A outer s H vs Q E hr h => ?_)
  · obtain ⟨a, rest, ds, Φ, m, rfl, _, hd, ⟨kd, rfl, _⟩, _⟩ := h
    have := (dpa_iff.mp hd).1
    simp at this
    simp [this]
  obtain ⟨a, rest, ds, Φ, m, rfl, hp, hd, ⟨kd, rfl, rfl⟩, q⟩ := h
  cases hd with
  | cons h1 h2 =>
    cases h1; cases h2
    refine ⟨_, (pss_cons (ps_if (pt_cmpR (op_eqD hr.units) (pv 1) pe_int (nomark _)) (pss_one (ps_ret (pe_tup (pa_cons (pe_op op_sub (pe_cal C__law_take (hr.mono (by omega)) (by rfl) (pa_cons (pv 0) (pa_cons pe_int pa_nil))) pe_int) (pa_cons pe_int pa_nil))))) pss_nil)
      (pss_one (ps_ret (pe_cal C__law_lowest (hr.mono (by omega)) (by rfl) (pa_cons (pe_op op_sub (pe_cal C__law_take (hr.mono (by omega)) (by rfl) (pa_cons (pv 0) (pa_cons pe_int pa_nil))) pe_int) (pa_cons (pe_op op_add pe_int (pe_cal C__law_take (hr.mono (by omega)) (by rfl) (pa_cons (pv 0) (pa_cons pe_int pa_nil)))) pa_nil)))))), ?_⟩
    refine goM (env_pen (n := 0) hp (.cons (.int kd) .nil)) ?_ q
    have tk : ∀ {G : List Sl} {many : Int}, 0 < many → many ≤ 1000 → EvM K (dl a H) a 0 1 (tCall (SpM K 1 R_take) [] E0 (tCons (tVar 0) (tCons (tC (.int many)) tNil))) G (fun d => ∃ i : Int, d = .int i ∧ 0 ≤ i ∧ i < many) := fun h0 h1 => em_take h0 h1
    refine m_seq (m_if (et_test (ev_eq_int (ev_var rfl).p ev_int.p)) (fun hb => ?_) (fun hb => m_next ?_))
    · refine m_ret (k := 1 + 0 + (0 + 0)) (em_tup (ema_cons (em_op (X := fun d => ∃ i : Int, d = .int i ∧ i.natAbs < 10) (tk (many := 7) (by decide) (by decide)) (em_ev ev_int) (fun d e ⟨i, hi, i0, i1⟩ he => by subst hi he; exact ⟨_, op_i0, _, rfl, by omega⟩)) (ema_cons (em_ev ev_int) ema_nil)) (fun ds ⟨_, _, e1, _, _, _, e2, _, e3⟩ => by subst e1 e2 e3; simp)) (by omega) ?_
      rintro d ⟨ds, rfl, d1, r, rfl, ⟨i, rfl, hi⟩, d2, r2, rfl, rfl, rfl⟩
      exact ⟨by omega, _, rfl, rfl, Rat.divInt i 1, (nm_int i).symm, sz_small (by decide) (by omega) (by decide)⟩
    · refine m_ret (k := 1 + 0 + (0 + 1 + 0)) (em_call (Rr := R_lowest) (Φ := Num) (ema_cons (em_op (X := fun d => ∃ i : Int, d = .int i ∧ i.natAbs < 50) (tk (many := 41) (by decide) (by decide)) (em_ev ev_int) (fun d e ⟨i, hi, i0, i1⟩ he => by subst hi he; exact ⟨_, op_i0, _, rfl, by omega⟩)) (ema_cons (em_op (X := fun d => ∃ i : Int, d = .int i ∧ 0 < i ∧ i < 50) (em_ev ev_int) (tk (many := 6) (by decide) (by decide)) (fun d e hd ⟨i, hi, i0, i1⟩ => by subst hi hd; exact ⟨_, op_i0, _, rfl, by omega, by omega⟩)) ema_nil)) (fun ds ⟨d1, r, e1, ⟨i, hi, hib⟩, d2, r2, e2, ⟨b, hb, b0, b1⟩, e3⟩ => ?_)) (by omega) ?_
      · subst e1 e2 e3 hi hb
        exact ⟨_, ⟨i, b, by omega, Nat.lt_of_lt_of_le (show b.natAbs < 2 ^ 6 by omega) (Nat.pow_le_pow_right (by decide) (by decide)), rfl, rfl⟩, rfl, _, rfl, sz_small b0 (by omega) (by omega)⟩
      · rintro d hN
        refine ⟨by omega, d, rfl, ?_, hN⟩
        obtain ⟨q, rfl, _⟩ := hN
        rfl
theorem em_number {E : XK} {Ψ : PD → Prop} (h : EvM K B a j k te G Ψ) (hi : ∀ d, Ψ d → ∃ i : Int, d = .int i) : EvM K B a j (k + 0 + 2) (tCall (SpM K 2 R_number) [] E (tCons (tVar j) (tCons te tNil))) G Num :=
  em_pen (ema_cons h ema_nil) fun ds ⟨d, r, e1, e2, e3⟩ => by
    obtain ⟨i, rfl⟩ := hi d e2
    subst e1 e3
    exact ⟨rfl, i, rfl, rfl⟩
end
end PF

-- P28
set_option linter.all false
set_option maxRecDepth 100000
set_option maxHeartbeats 4000000
namespace PF
open PySem PySem.Spec PyProof.Rows L2 LT
def LnOk (l : Ln) : Prop := Sz 40 l.1 ∧ Sz 10 l.2
theorem sz0 (n : Nat) (h : 0 < n) : Sz n 0 := ⟨Nat.lt_of_lt_of_le (show (0 : Rat).num.natAbs < 2 by decide) (Nat.pow_le_pow_right (n := 2) (by decide) h), Nat.lt_of_lt_of_le (show (0 : Rat).den < 2 by decide) (Nat.pow_le_pow_right (n := 2) (by decide) h)⟩
def fOf (L : List Ln) (i : Nat) : Ln := L.getD i (0, 0)
theorem fOf_ok {L : List Ln} (h : ∀ l ∈ L, LnOk l) (i : Nat) : LnOk (fOf L i) := by
  unfold fOf List.getD
  cases e : L[i]? with
  | none => exact ⟨sz0 40 (by decide), sz0 10 (by decide)⟩
  | some l => exact h l (List.mem_of_getElem? e)
theorem fOf_map (L : List Ln) : L.map lnD = (List.range L.length).map fun i => lnD (fOf L i) := by
  apply List.ext_getElem?
  intro i
  rw [List.getElem?_map, List.getElem?_map]
  by_cases c : i < L.length
  · rw [List.getElem?_range c, List.getElem?_eq_getElem c]
    show some (lnD L[i]) = some (lnD (fOf L i))
    unfold fOf List.getD
    rw [List.getElem?_eq_getElem c]; rfl
  · rw [List.getElem?_eq_none (by omega), List.getElem?_eq_none (by simp; omega)]; rfl
section
variable {P : Program} {w : World} {K : PySem.W.Frag} {mg : Str → Option Value} {base : Heap} {CK CW : Addr} {B H H' : Hp} {a : Addr} {j k l m : Nat} {G : List Sl} {te tl ta tb tt td : TE} {tA : TA} {tc : TT} {t u : TS} {σ : L2.St} {d e : PD} {ds es : List PD} {Φ Ψ : PD → Prop} {N M : List Sl → Nat → Prop} {R : Rt → Nat → Prop}
theorem EvMA.imp {Φs Ψs : List PD → Prop} (h : EvMA K B a j k tA G Φs) (hi : ∀ d, Φs d → Ψs d) : EvMA K B a j k tA G Ψs := fun σ H m I Q q => h σ H m I Q fun vs ds H' hd => q vs ds H' (hi ds hd)
theorem goML {Q : VK} (I : EnvP K (dl a H) a 0 H σ G m) (h : StM K (dl a H) a 0 t G m (fun _ _ => False) R) (hno : ∀ d m', ¬ R (.im d) m')
    (o : ∀ b ds xs H' m', R (.ow ds) m' → b ≠ a → dl a H b = none → H' b = some (.lst xs) → DqAll K (dl a H) H' xs ds → Pen H' a m' → Same (dl a H) H' → Ts K H H' → Q (.ref b) H') : t { nx := fun _ H' => Q .non H', rt := Q } σ H :=
  h σ H _ I (fun _ _ _ _ z => z.elim) (fun v d H' m' z => absurd z (hno d m')) o
/-! lines -/
def spLines (K : PySem.W.Frag) : Sp := fun vs H Q _ => ∃ (a : Addr) (m : Nat), vs = [.ref a] ∧ Pen H a (m + 60) ∧
  ∀ (b : Addr) (H' : Hp) (xs : List V) (L : List Ln), L.length ≤ 6 → (∀ l ∈ L, LnOk l) → b ≠ a → H b = none → Pen H' a m → Fm K a H H' → H' b = some (.lst xs) → DpAll K H' xs (L.map lnD) → Q (.ref b) H'
theorem lns_noL (L : List Ln) : noL.noLs (L.map lnD) = true := noLs_iff.mpr fun d hd => by
  obtain ⟨l, _, rfl⟩ := List.mem_map.mp hd
  rfl
theorem shp_ln (l : Ln) : Shp 2 (lnD l) := shp_pair (shp_nm _) (shp_nm _)
theorem shp_lns (L : List Ln) : Shp 3 (.list (L.map lnD)) := shp_lst fun d hd => by
  obtain ⟨l, _, rfl⟩ := List.mem_map.mp hd
  exact shp_ln l
theorem cdn2 (i : Int) : CDN i 2 := ⟨by decide, by decide⟩
abbrev s__law_lines : Stmt := topS 62
theorem sc__law_lines : FnScope ["_law_pen_here", "_law_kind", "_law_place", "_law_time", "_law_lines_here", "_law_k", "_law_line", "_law_way"] ["_law_pen_here"] (defScope s__law_lines) := ⟨rfl, rfl, rfl, by decide +kernel, rfl, by decide +kernel, by decide +kernel⟩
theorem ok__law_lines (D : Df K mg "_law_lines" s__law_lines ["_law_pen_here"]) (T : Txt mg) (C__law_take : Cal P w K mg base 1 "_law_take" ["_law_pen_here", "_law_many"] (SpM K 1 R_take)) (C__law_number : Cal P w K mg base 2 "_law_number" ["_law_pen_here", "_law_kind"] (SpM K 2 R_number))
    (C__law_plus : Cal P w K mg base 2 "_law_plus" ["_law_a", "_law_b", "_law_sign"] (SpI K R_plus)) (C__law_times : Cal P w K mg base 2 "_law_times" ["_law_a", "_law_b"] (SpI K R_times)) :
    Cal P w K mg base 3 "_law_lines" ["_law_pen_here"] (spLines K) := by
  refine Cal.of D sc__law_lines (fun vs H Q E h => by obtain ⟨a, m, rfl, _⟩ := h; rfl) (fun f cdv A outer s H vs Q E hr h => ?_)
  obtain ⟨a, m, rfl, hp, q⟩ := h
  refine ⟨_, (pss_cons (ps_set (i := 1) sc__law_lines.nd rfl (.inl rfl) (pe_op op_fdN (pe_cal C__law_take (hr.mono (by omega)) (by rfl) (pa_cons (pv 0) (pa_cons pe_int pa_nil))) pe_int))
      (pss_cons (ps_set (i := 2) sc__law_lines.nd rfl (.inl rfl) (pe_cal C__law_number (hr.mono (by omega)) (by rfl) (pa_cons (pv 0) (pa_cons pe_int pa_nil))))
      (pss_cons (ps_set (i := 3) sc__law_lines.nd rfl (.inl rfl) (pe_cal C__law_number (hr.mono (by omega)) (by rfl) (pa_cons (pv 0) (pa_cons pe_int pa_nil))))
      (pss_cons (ps_set (i := 4) sc__law_lines.nd rfl (.inl rfl) (pe_lst pa_nil))
      (pss_cons (ps_for PassesOwn.never rfl (pi_range1 (by rfl) T.z_range (pa_cons (pe_cal C__law_take (hr.mono (by omega)) (by rfl) (pa_cons (pv 0) (pa_cons pe_int pa_nil))) pa_nil)) (pg_name (i := 5) sc__law_lines.nd rfl (.inl rfl)) (pss_cons (ps_set (i := 6) sc__law_lines.nd rfl (.inl rfl) (pe_tup (pa_cons (pe_cal C__law_number (hr.mono (by omega)) (by rfl) (pa_cons (pv 0) (pa_cons (pv 1) pa_nil))) (pa_cons (pe_cal C__law_number (hr.mono (by omega)) (by rfl) (pa_cons (pv 0) (pa_cons (pv 1) pa_nil))) pa_nil))))
      (pss_cons (ps_set (i := 7) sc__law_lines.nd rfl (.inl rfl) (pe_cal C__law_take (hr.mono (by omega)) (by rfl) (pa_cons (pv 0) (pa_cons pe_int pa_nil))))
      (pss_cons (ps_if (PW.pt (pw_and (pt_cmpR (op_eqD hr.units) (pv 7) pe_int (nomark _)) (pw_and1 (pt_cmpR (op_neD hr.units) (pv 4) (pe_lst pa_nil) (nomark _))))) (pss_one (ps_set (i := 6) sc__law_lines.nd rfl (.inl rfl) (pe_ix (ix_listK (K := K) rfl) (pv 4) (pe_cal C__law_take (hr.mono (by omega)) (by rfl) (pa_cons (pv 0) (pa_cons (pe_callB call_len_seq (by rfl) T.z_len boot_len (pa_cons (pv 4) pa_nil)) pa_nil))) (fun _ _ => rfl)))) pss_nil)
      (pss_cons (ps_if (PW.pt (pw_and (pt_cmpR (op_eqD hr.units) (pv 7) pe_int (nomark _)) (pw_and1 (pt_cmpR (op_neD hr.units) (pv 4) (pe_lst pa_nil) (nomark _))))) (pss_one (ps_set (i := 6) sc__law_lines.nd rfl (.inl rfl) (pe_tup (pa_cons (pe_ix (ix_tupK (K := K) rfl) (pv 6) pe_int (fun _ _ => rfl)) (pa_cons (pe_ix (ix_tupK (K := K) rfl) (pe_ix (ix_listK (K := K) rfl) (pv 4) (pe_cal C__law_take (hr.mono (by omega)) (by rfl) (pa_cons (pv 0) (pa_cons (pe_callB call_len_seq (by rfl) T.z_len boot_len (pa_cons (pv 4) pa_nil)) pa_nil))) (fun _ _ => rfl)) pe_int (fun _ _ => rfl)) pa_nil))))) pss_nil)
      (pss_cons (ps_if (pt_cmpR op_in_seq (pv 7) (pe_tup (pa_cons pe_int (pa_cons pe_int (pa_cons pe_int pa_nil)))) rfl) (pss_one (ps_set (i := 6) sc__law_lines.nd rfl (.inl rfl) (pe_tup (pa_cons (pe_cal C__law_plus (hr.mono (by omega)) (by rfl) (pa_cons (pv 2) (pa_cons (pe_cal C__law_times (hr.mono (by omega)) (by rfl) (pa_cons (pe_ix (ix_tupK (K := K) rfl) (pv 6) pe_int (fun _ _ => rfl)) (pa_cons (pv 3) pa_nil))) (pa_cons (pe_un un_neg pe_int) pa_nil)))) (pa_cons (pe_ix (ix_tupK (K := K) rfl) (pv 6) pe_int (fun _ _ => rfl)) pa_nil))))) pss_nil)
      (pss_one (ps_expr (pe_bm PySem.F.plainAttrs_list PySem.F.slot_list_append PySem.F.type_list_append mt_append (pv 4) (pa_cons (pv 6) pa_nil))))))))))
      (pss_one (ps_ret (pv 4)))))))), ?_⟩
  have I := env_pen (K := K) (n := 7) hp DpAll.nil
  have num0 : ∀ {G : List Sl} {i : Int}, EvM K (dl a H) a 0 2 (tCall (SpM K 2 R_number) [] E0 (tCons (tVar 0) (tCons (tC (.int i)) tNil))) G Num := fun {G i} => em_number (k := 0) (em_ev (ev_int (i := i))) (fun d e => ⟨_, e⟩)
  refine goML (R := fun r m' => m ≤ m' ∧ ∃ L : List Ln, L.length ≤ 6 ∧ (∀ l ∈ L, LnOk l) ∧ r = .ow (L.map lnD)) I ?_ (fun d m' ⟨_, L, _, _, e⟩ => by cases e) (fun b ds xs H' m' ⟨hm, L, hl, hok, e⟩ hb hB hx hd hpen hs ts => by
    cases e
    exact q b H' xs L hl hok hb (by rw [← dl_ne (a := a) (H := H) hb]; exact hB) (hpen.mono hm) ⟨hs, ts⟩ hx (hd.dp hs))
  · show StM K (dl a H) a 0 _ [.vl (.ref a), .no, .no, .no, .no, .no, .no, .no] (m + 60) _ _
    refine m_seq (m_set (k := 1 + 0) (em_op (X := fun d => ∃ i : Int, d = .int i) (em_take (many := 3) (by decide) (by decide)) (em_ev ev_int) (fun d e ⟨i, hi, _⟩ he => by subst hi he; exact ⟨_, op_iC (cdn2 _), _, rfl⟩)) (by omega) (by decide) ?_)
    rintro d ⟨kd, rfl⟩
    refine m_seq (m_set num0 (by omega) (by decide) ?_)
    rintro d ⟨p, rfl, hpz⟩
    refine m_seq (m_set num0 (by omega) (by decide) ?_)
    rintro d ⟨tm, rfl, htz⟩
    refine m_seq (m_setO (eo_lst eap_nil) rfl (by decide) (fun b => ?_))
    refine m_seqM (M := fun G' m' => ∃ (L : List Ln) (s5 s6 s7 : Sl), G' = [.vl (.ref a), .im (.int kd), .im (nm p), .im (nm tm), .ow b (L.map lnD), s5, s6, s7] ∧ L.length ≤ 6 ∧ (∀ l ∈ L, LnOk l) ∧ m ≤ m')
      (m_for (l := 6) (k := 1 + 0) ((ema_cons (em_take (many := 7) (by decide) (by decide)) ema_nil).imp fun ds hds => by
        obtain ⟨d, r, e1, ⟨i, hi, i0, i1⟩, e3⟩ := hds
        subst e1 hi e3
        obtain ⟨n, rfl⟩ := Int.eq_ofNat_of_zero_le i0
        exact ⟨n, rfl, by omega⟩) (by omega) (by omega) (by decide)
        (fun x G' m' => ∃ (L : List Ln) (s5 s6 s7 : Sl), G' = [.vl (.ref a), .im (.int kd), .im (nm p), .im (nm tm), .ow b (L.map lnD), s5, s6, s7] ∧ L.length ≤ x ∧ (∀ l ∈ L, LnOk l) ∧ m + 50 ≤ m' + 7 * x)
        ⟨[], _, _, _, rfl, Nat.le_refl _, (fun l hl => nomatch hl), by omega⟩ ?_ (fun x G' m' hx ⟨L, s5, s6, s7, e, hl, hok, hm⟩ => ⟨L, s5, s6, s7, e, by omega, hok, by omega⟩)) ?_
    · rintro x G' m' hx ⟨L, s5, s6, s7, rfl, hl, hok, hm⟩
      have numk : ∀ {G : List Sl}, G[1]? = some (.im (.int kd)) → EvM K (dl a H) a 0 2 (tCall (SpM K 2 R_number) [] E0 (tCons (tVar 0) (tCons (tVar 1) tNil))) G Num := fun {G} h => em_number (k := 0) (em_ev (ev_var h)) (fun d e => ⟨_, e⟩)
      refine m_seq (m_set (k := 2 + (2 + 0)) (Φ := fun d => ∃ l : Ln, d = lnD l ∧ LnOk l) ((em_tup (ema_cons (numk rfl) (ema_cons (numk rfl) ema_nil)) (fun ds ⟨_, _, e1, _, _, _, e2, _, e3⟩ => by subst e1 e2 e3; simp)).imp fun d hd => ?_) (by omega) (by decide) ?_)
      · obtain ⟨ds, rfl, d1, r1, rfl, ⟨q1, rfl, z1⟩, d2, r2, rfl, ⟨q2, rfl, z2⟩, rfl⟩ := hd
        exact ⟨(q1, q2), rfl, sz_mono z1 (by decide), z2⟩
      rintro d ⟨l0, rfl, hl0⟩
      refine m_seq (m_set (em_take (many := 8) (by decide) (by decide)) (by omega) (by decide) ?_)
      rintro d ⟨wy, rfl, _, _⟩
      have lenL : ∀ {G : List Sl}, G[4]? = some (.ow b (L.map lnD)) → Ev K (dl a H) (tCB (fun xs H Q => ∃ p ys, xs = [.ref p] ∧ (SqL K H p ys ∨ SqT K H p ys) ∧ Q (.int ys.length) H) (tCons (tVar 4) tNil)) G (.int (L.length : Int)) := fun h => (ev_len (ep_var h)).is (by rw [List.length_map])
      have pick : ∀ {G : List Sl}, L ≠ [] → G[4]? = some (.ow b (L.map lnD)) → EvM K (dl a H) a 0 1 (tOp (rIxL K) (tVar 4) (tCall (SpM K 1 R_take) [] E0 (tCons (tVar 0) (tCons (tCB (fun xs H Q => ∃ p ys, xs = [.ref p] ∧ (SqL K H p ys ∨ SqT K H p ys) ∧ Q (.int ys.length) H) (tCons (tVar 4) tNil)) tNil)))) G (fun d => ∃ l : Ln, d = lnD l ∧ LnOk l) := fun {G} hne h => (em_ixV h (em_takeL (lenL h) (List.length_pos_iff.mpr hne) (by omega)) (by rw [List.length_map])).imp fun d hd => by
        obtain ⟨l, hl, rfl⟩ := List.mem_map.mp hd
        exact ⟨l, rfl, hok l hl⟩
      have tst : ∀ {G : List Sl} {i : Int}, G[4]? = some (.ow b (L.map lnD)) → G[7]? = some (.im (.int wy)) → EvT K (dl a H) (tAnd (tTest (tOp (rEqD K) (tVar 7) (tC (.int i)))) (tTest (tOp (rNeD K) (tVar 4) (tLst tNil)))) G (decide (wy = i) && !decide (L.map lnD = [])) := fun h1 h2 => et_and (et_test (ev_eq_int (ev_var h2).p ev_int.p)) (fun _ => et_test (ev_ne_nil (shp_lns L) (by decide) (ep_var h1) (eo_lst eap_nil).p))
      have ne_of_b : ∀ {i : Int}, (decide (wy = i) && !decide (L.map lnD = [])) = true → L ≠ [] := fun h z => by subst z; simp at h
      -- way 0
      refine m_seqM (M := fun G' m2 => ∃ l1 : Ln, LnOk l1 ∧ G' = [.vl (.ref a), .im (.int kd), .im (nm p), .im (nm tm), .ow b (L.map lnD), .im (.int (x : Int)), .im (lnD l1), .im (.int wy)] ∧ m' ≤ m2 + 6)
        (m_if (tst rfl rfl) (fun hb => m_set (pick (ne_of_b hb) rfl) (by omega) (by decide) fun d hd => ?_) (fun hb => m_next ⟨l0, hl0, rfl, by omega⟩)) ?_
      · obtain ⟨l1, rfl, hl1⟩ := hd
        exact ⟨l1, hl1, rfl, by omega⟩
      rintro G' m2 ⟨l1, hl1, rfl, hm2⟩
      -- way 1
      refine m_seqM (M := fun G' m3 => ∃ l2 : Ln, LnOk l2 ∧ G' = [.vl (.ref a), .im (.int kd), .im (nm p), .im (nm tm), .ow b (L.map lnD), .im (.int (x : Int)), .im (lnD l2), .im (.int wy)] ∧ m' ≤ m3 + 7 ∧ m2 ≤ m3 + 1)
        (m_if (tst rfl rfl) (fun hb => m_set (k := 0 + (1 + 0)) (Φ := fun d => ∃ l : Ln, d = lnD l ∧ LnOk l) ((em_tup (ema_cons (em_ev (ev_st (ev_var rfl))) (ema_cons (em_ixT (Φ := fun d => ∃ q : Rat, d = nm q ∧ Sz 10 q) ((pick (ne_of_b hb) rfl).imp fun d hd => ?_)) ema_nil)) (fun ds ⟨_, _, e1, _, _, _, e2, _, e3⟩ => by subst e1 e2 e3; simp)).imp fun d hd => ?_) (by omega) (by decide) fun d hd => ?_) (fun hb => m_next ⟨l1, hl1, rfl, by omega, by omega⟩)) ?_
      · obtain ⟨l, rfl, h1, h2⟩ := hd
        exact ⟨_, rfl, nm l.2, rfl, l.2, rfl, h2⟩
      · obtain ⟨ds, rfl, d1, r1, rfl, rfl, d2, r2, rfl, ⟨q2, rfl, z2⟩, rfl⟩ := hd
        exact ⟨(l1.1, q2), rfl, hl1.1, z2⟩
      · obtain ⟨l2, rfl, hl2⟩ := hd
        exact ⟨l2, hl2, rfl, by omega, by omega⟩
      rintro G' m3 ⟨l2, hl2, rfl, hm3, _⟩
      -- ways 2, 3, 4
      refine m_seqM (M := fun G' m4 => ∃ l3 : Ln, LnOk l3 ∧ G' = [.vl (.ref a), .im (.int kd), .im (nm p), .im (nm tm), .ow b (L.map lnD), .im (.int (x : Int)), .im (lnD l3), .im (.int wy)] ∧ m' ≤ m4 + 7)
        (m_if (et_test (ev_op (ev_var rfl).p (ev_tup (ea_cons ev_int (ea_cons ev_int (ea_cons ev_int ea_nil)))).p (op_inT (ns := [2, 3, 4])))) (fun hb => m_set (k := 0) (em_ev (ev_tup (ea_cons (ev_minus (szb hpz) (szb (sz_mul hl2.2 htz)) (ev_var rfl).p (ev_times (szb hl2.2) (szb htz) (ev_sl (ev_var rfl)).p (ev_var rfl).p).p (ev_un_neg ev_int)) (ea_cons (ev_sl (ev_var rfl)) ea_nil)))) (by omega) (by decide) fun d hd => ?_) (fun hb => m_next ⟨l2, hl2, rfl, by omega⟩)) ?_
      · subst hd
        exact ⟨(p - l2.2 * tm, l2.2), ⟨sz_mono (sz_sub hpz (sz_mul hl2.2 htz)) (by decide), hl2.2⟩, rfl, by omega⟩
      rintro G' m4 ⟨l3, hl3, rfl, hm4⟩
      refine m_app (by decide) rfl (ev_var rfl) (by rw [List.length_map]; exact small_sz (by omega)) ⟨L ++ [l3], _, _, _, by rw [List.map_append]; rfl, by rw [List.length_append, List.length_singleton]; omega, fun l hl => ?_, by omega⟩
      rcases List.mem_append.mp hl with z | z
      · exact hok l z
      · have : l = l3 := by simpa using z
        subst this; exact hl3
    · rintro G' m' ⟨L, s5, s6, s7, rfl, hl, hok, hm⟩
      exact m_retV rfl ⟨hm, L, hl, hok, rfl⟩
/-! when -/
def R_when (ds : List PD) (Φ : PD → Prop) : Prop := ∃ L : List Ln, L.length ≤ 6 ∧ (∀ l ∈ L, LnOk l) ∧ ds = [.list (L.map lnD)] ∧ Φ = fun d => ∃ q : Rat, d = nm q ∧ Sz 300 q
abbrev s__law_when : Stmt := topS 63
theorem sc__law_when : FnScope ["_law_pen_here", "_law_lines_here", "_law_one", "_law_other", "_law_steep", "_law_apart"] ["_law_pen_here", "_law_lines_here"] (defScope s__law_when) := ⟨rfl, rfl, rfl, by decide +kernel, rfl, by decide +kernel, by decide +kernel⟩
theorem emt_and {b : Bool} (h1 : EvT K B tc G b) (h2 : b = true → EvM K B a j k te G (fun d => ∃ c : Bool, d = .bool c)) : EvMT K B a j k (tAnd tc (tTest te)) G := by
  intro σ H m I Q q
  refine h1 σ H I.env _ fun H1 e1 => ?_
  cases b with
  | true =>
    refine h2 rfl σ H1 m (I.ex e1) _ fun v d H2 hd I2 f2 hv => ?_
    obtain ⟨c, e⟩ := hd
    subst e
    have hv' := hv.dp I2.env.sm
    cases hv'
    exact ⟨c, rfl, q c H2 I2 ((Fm.same e1).trans f2)⟩
  | false => exact q false H1 ((I.ex e1).mono (by omega)) (.same e1)
theorem ok__law_when (D : Df K mg "_law_when" s__law_when ["_law_pen_here", "_law_lines_here"]) (T : Txt mg) (C__law_take : Cal P w K mg base 1 "_law_take" ["_law_pen_here", "_law_many"] (SpM K 1 R_take)) (C__law_number : Cal P w K mg base 2 "_law_number" ["_law_pen_here", "_law_kind"] (SpM K 2 R_number))
    (C__law_plus : Cal P w K mg base 2 "_law_plus" ["_law_a", "_law_b", "_law_sign"] (SpI K R_plus)) (C__law_lowest : Cal P w K mg base 1 "_law_lowest" ["_law_top", "_law_bottom"] (SpI K R_lowest)) :
    Cal P w K mg base 3 "_law_when" ["_law_pen_here", "_law_lines_here"] (SpM K 8 R_when) := by
  refine Cal.of D sc__law_when (fun vs H Q E h => ?_) (fun f cdv A outer s H vs Q E hr h => ?_)
  · obtain ⟨a, rest, ds, Φ, m, rfl, _, hd, ⟨L, _, _, rfl, _⟩, _⟩ := h
    have := (dpa_iff.mp hd).1
    simp at this
    simp [this]
  obtain ⟨a, rest, ds, Φ, m, rfl, hp, hd, ⟨L, hL, hok, rfl, rfl⟩, q⟩ := h
  match rest, hd with
  | [lv], hd =>
    refine ⟨_, (pss_cons (ps_if (PW.pt (pw_and (pt_cmpR op_gt (pe_callB call_len_seq (by rfl) T.z_len boot_len (pa_cons (pv 1) pa_nil)) pe_int (nomark _)) (pw_and1 (pt_cmpR (op_eqD hr.units) (pe_cal C__law_take (hr.mono (by omega)) (by rfl) (pa_cons (pv 0) (pa_cons pe_int pa_nil))) pe_int (nomark _))))) (pss_cons (ps_set (i := 2) sc__law_when.nd rfl (.inl rfl) (pe_ix (ix_listK (K := K) rfl) (pv 1) (pe_cal C__law_take (hr.mono (by omega)) (by rfl) (pa_cons (pv 0) (pa_cons (pe_callB call_len_seq (by rfl) T.z_len boot_len (pa_cons (pv 1) pa_nil)) pa_nil))) (fun _ _ => rfl)))
      (pss_cons (ps_set (i := 3) sc__law_when.nd rfl (.inl rfl) (pe_ix (ix_listK (K := K) rfl) (pv 1) (pe_cal C__law_take (hr.mono (by omega)) (by rfl) (pa_cons (pv 0) (pa_cons (pe_callB call_len_seq (by rfl) T.z_len boot_len (pa_cons (pv 1) pa_nil)) pa_nil))) (fun _ _ => rfl)))
      (pss_cons (ps_set (i := 4) sc__law_when.nd rfl (.inl rfl) (pe_cal C__law_plus (hr.mono (by omega)) (by rfl) (pa_cons (pe_ix (ix_tupK (K := K) rfl) (pv 2) pe_int (fun _ _ => rfl)) (pa_cons (pe_ix (ix_tupK (K := K) rfl) (pv 3) pe_int (fun _ _ => rfl)) (pa_cons (pe_un un_neg pe_int) pa_nil)))))
      (pss_one (ps_if (pt_cmpR (op_neD hr.units) (pe_ix (ix_tupK (K := K) rfl) (pv 4) pe_int (fun _ _ => rfl)) pe_int (nomark _)) (pss_cons (ps_set (i := 5) sc__law_when.nd rfl (.inl rfl) (pe_cal C__law_plus (hr.mono (by omega)) (by rfl) (pa_cons (pe_ix (ix_tupK (K := K) rfl) (pv 3) pe_int (fun _ _ => rfl)) (pa_cons (pe_ix (ix_tupK (K := K) rfl) (pv 2) pe_int (fun _ _ => rfl)) (pa_cons (pe_un un_neg pe_int) pa_nil)))))
      (pss_one (ps_ret (pe_cal C__law_lowest (hr.mono (by omega)) (by rfl) (pa_cons (pe_op op_mulW (pe_ix (ix_tupK (K := K) rfl) (pv 5) pe_int (fun _ _ => rfl)) (pe_ix (ix_tupK (K := K) rfl) (pv 4) pe_int (fun _ _ => rfl))) (pa_cons (pe_op op_mulW (pe_ix (ix_tupK (K := K) rfl) (pv 5) pe_int (fun _ _ => rfl)) (pe_ix (ix_tupK (K := K) rfl) (pv 4) pe_int (fun _ _ => rfl))) pa_nil)))))) pss_nil))))) pss_nil)
      (pss_one (ps_ret (pe_cal C__law_number (hr.mono (by omega)) (by rfl) (pa_cons (pv 0) (pa_cons (pe_cal C__law_take (hr.mono (by omega)) (by rfl) (pa_cons (pv 0) (pa_cons pe_int pa_nil))) pa_nil)))))), ?_⟩
    refine goM (env_pen (n := 4) hp hd) ?_ q
    show StM K (dl a H) a 0 _ [.vl (.ref a), .im (.list (L.map lnD)), .no, .no, .no, .no] (m + 8) _ _
    have lenL : ∀ {G : List Sl}, G[1]? = some (.im (.list (L.map lnD))) → Ev K (dl a H) (tCB (fun xs H Q => ∃ p ys, xs = [.ref p] ∧ (SqL K H p ys ∨ SqT K H p ys) ∧ Q (.int ys.length) H) (tCons (tVar 1) tNil)) G (.int (L.length : Int)) := fun h => (ev_len (ev_var h).p).is (by rw [List.length_map])
    have pick : ∀ {G : List Sl}, 0 < L.length → G[1]? = some (.im (.list (L.map lnD))) → EvM K (dl a H) a 0 1 (tOp (rIxL K) (tVar 1) (tCall (SpM K 1 R_take) [] E0 (tCons (tVar 0) (tCons (tCB (fun xs H Q => ∃ p ys, xs = [.ref p] ∧ (SqL K H p ys ∨ SqT K H p ys) ∧ Q (.int ys.length) H) (tCons (tVar 1) tNil)) tNil)))) G (fun d => ∃ l : Ln, d = lnD l ∧ LnOk l) := fun {G} hne h => (em_ixI h (em_takeL (lenL h) hne (by omega)) (by rw [List.length_map])).imp fun d hd => by
      obtain ⟨l, hl, rfl⟩ := List.mem_map.mp hd
      exact ⟨l, rfl, hok l hl⟩
    have cont : ∀ {G : List Sl} {m' : Nat}, m + 3 ≤ m' → StM K (dl a H) a 0 (tRet (tCall (SpM K 2 R_number) [] E0 (tCons (tVar 0) (tCons (tCall (SpM K 1 R_take) [] E0 (tCons (tVar 0) (tCons (tC (.int 2)) tNil))) tNil)))) G m' (fun _ _ => False) (fun r m' => m ≤ m' ∧ ∃ d, r = .im d ∧ noL d = true ∧ ∃ q : Rat, d = nm q ∧ Sz 300 q) := fun {G m'} hm => m_ret (em_number (em_take (many := 2) (by decide) (by decide)) (fun d ⟨i, e, _⟩ => ⟨i, e⟩)) (by omega) (fun d ⟨q, e, hz⟩ => ⟨by omega, d, rfl, by subst e; rfl, q, e, sz_mono hz (by decide)⟩)
    by_cases hc : 1 < L.length
    · refine m_seqM (M := fun G' m' => m + 3 ≤ m') (m_ifM (k := 1 + 0) (emt_and (b := true) ((et_test (ev_op (lenL rfl).p ev_int.p op_ib)).is (decide_eq_true (by omega))) (fun _ => em_op (X := fun d => ∃ c : Bool, d = .bool c) (em_take (many := 2) (by decide) (by decide)) (em_ev ev_int) (fun d e ⟨i, hi, _⟩ he => by subst hi he; exact ⟨_, op_eq' (int_shaped _) (int_shaped _), _, rfl⟩))) (by omega) ?_ (m_next (by omega))) (fun G' m' hm => cont hm)
      refine m_seq (m_set (pick (by omega) rfl) (by omega) (by decide) ?_)
      rintro d ⟨l1, rfl, h1⟩
      refine m_seq (m_set (pick (by omega) rfl) (by omega) (by decide) ?_)
      rintro d ⟨l2, rfl, h2⟩
      refine m_seq (m_set (k := 0) (em_ev (ev_minus (szb h1.2) (szb h2.2) (ev_sl (ev_var rfl)).p (ev_sl (ev_var rfl)).p (ev_un_neg ev_int))) (by omega) (by decide) ?_)
      rintro d rfl
      have z1 := sz_sub h1.2 h2.2
      have z2 := sz_sub h2.1 h1.1
      refine m_if (et_test (ev_ne_int (ev_num (ev_var rfl)).p ev_int.p)) (fun hb => ?_) (fun hb => m_next (by omega))
      have hne : (l1.2 - l2.2).num ≠ 0 := by simpa using hb
      have hq0 : l1.2 - l2.2 ≠ 0 := fun z => hne (by rw [z]; rfl)
      refine m_seq (m_set (k := 0) (em_ev (ev_minus (szb h2.1) (szb h1.1) (ev_st (ev_var rfl)).p (ev_st (ev_var rfl)).p (ev_un_neg ev_int))) (by omega) (by decide) ?_)
      rintro d rfl
      have hjn : ((l2.1 - l1.1).den : Int) * (l1.2 - l2.2).num ≠ 0 := by
        have h6 := (l2.1 - l1.1).den_nz
        exact Int.mul_ne_zero (by omega) hne
      have hbig : (((l2.1 - l1.1).den : Int) * (l1.2 - l2.2).num).natAbs < 2 ^ 8000 := Nat.lt_of_lt_of_le (wide_lt (den_lt (szb z2)) (szb z1).1) (Nat.pow_le_pow_right (by decide) (by decide))
      refine m_ret (k := 0) (em_ev (ev_lowest hjn hbig (ev_mulW (ev_num (ev_var rfl)) (ev_den (ev_var rfl)) (szb z2).1 (den_lt (szb z1))).p (ev_mulW (ev_den (ev_var rfl)) (ev_num (ev_var rfl)) (den_lt (szb z2)) (szb z1).1).p)) (by omega) ?_
      rintro d rfl
      refine ⟨by omega, _, rfl, rfl, (l2.1 - l1.1) / (l1.2 - l2.2), by rw [div_parts], sz_mono (sz_quo z2 z1 hq0) (by decide)⟩
    · exact m_seqM (M := fun G' m' => m + 3 ≤ m') (m_if (b := false) ((et_and (a := false) (b := false) ((et_test (ev_op (lenL rfl).p ev_int.p op_ib)).is (decide_eq_false (by omega))) (fun z => nomatch z)).is rfl) (fun z => nomatch z) (fun _ => m_next (by omega))) (fun G' m' hm => cont hm)
end
end PF

-- P29
set_option linter.all false
set_option maxRecDepth 100000
set_option maxHeartbeats 4000000
namespace PF
open PySem PySem.Spec PyProof.Rows L2 LT
section
variable {P : Program} {w : World} {K : PySem.W.Frag} {mg : Str → Option Value} {base : Heap} {CK CW : Addr} {B H H' : Hp} {a : Addr} {j k l m : Nat} {G : List Sl} {te tl ta tb tt td : TE} {tA : TA} {tc : TT} {t u : TS} {σ : L2.St} {d e : PD} {ds es : List PD} {Φ Ψ : PD → Prop} {N M : List Sl → Nat → Prop} {R : Rt → Nat → Prop}
def spLaw (K : PySem.W.Frag) : Sp := fun vs H Q _ => ∃ (a : Addr) (ns : List Int), vs = [.ref a] ∧ SqL K H a (ns.map V.int) ∧ ns.length ≤ 1000 ∧ ∀ H', Q (.bl true) H'
theorem ints_dp {H : Hp} : ∀ ns : List Int, DpAll K H (ns.map V.int) (ns.map .int)
  | [] => .nil
  | x :: r => .cons (.int _) (ints_dp r)
theorem m_lines {i : Nat} (hi : i ≠ j) (hk : 60 ≤ m) {E : XK} (kk : ∀ (b : Addr) (n : Nat) (f : Nat → Ln), n ≤ 6 → (∀ i, LnOk (f i)) → N (G.set i (.ow b ((List.range n).map fun i => lnD (f i)))) (m - 60)) : StM K B a j (tAsg (tCall (spLines K) [] E (tCons (tVar j) tNil)) (gName i)) G m N R := fun σ H D I q r o => by
  obtain ⟨x, e0, ex⟩ := I.env.slot I.slot
  cases (show x = some (V.ref a) from ex)
  refine ⟨_, e0, a, m - 60, rfl, I.pen.mono (by omega), fun b H' xs L hL hok hba hb hp hf hx hd => ?_⟩
  have I' := I.fm hf hp
  have hB : B b = none := same_there I.env.sm b hb
  have ho : ¬ Own G b := fun z => by
    obtain ⟨xs, e⟩ := I.env.own_some z
    rw [hb] at e; cases e
  rw [fOf_map] at hd
  refine q _ H' _ _ (kk b L.length (fOf L) hL (fOf_ok hok)) ⟨I'.env.set_ow i hB hx (dqa_of (lines_noL _ _) hd) (fun z => ?_), fun z => ?_, I.ba, by rw [List.getElem?_set_ne hi]; exact I.slot, hp⟩ hf.2
  · exact ho z
  · rcases own_set_ow z with z | z
    · exact hba z.symm
    · exact I.na z
theorem em_when {i n : Nat} {f : Nat → Ln} {b : Addr} {E : XK} (hs : G[i]? = some (.ow b ((List.range n).map fun i => lnD (f i)))) (hn : n ≤ 6) (hf : ∀ i, LnOk (f i)) : EvM K B a j 8 (tCall (SpM K 8 R_when) [] E (tCons (tVar j) (tCons (tVar i) tNil))) G (fun d => ∃ q : Rat, d = nm q ∧ Sz 300 q) := fun σ H m I Q q => by
  obtain ⟨x, e0, ex⟩ := I.env.slot I.slot
  cases (show x = some (V.ref a) from ex)
  obtain ⟨h1, h2, xs, h3, h4⟩ := I.env.own_at hs
  have hba : b ≠ a := by rintro rfl; exact I.na ⟨i, _, hs⟩
  refine ⟨_, e0, _, h1, a, [.ref b], [.list ((List.range n).map fun i => lnD (f i))], _, m, rfl, I.pen, .cons (.lst (.of (by rw [dl_ne hba]; exact h3)) (dpa_mono (lines_noL n f) I.pen.ts (h4.dp I.env.sm))) .nil, ⟨(List.range n).map f, by simpa using hn, fun l hl => ?_, by rw [List.map_map]; rfl, rfl⟩, fun v d H' hd hnd hp hf hv => q v d H' hd (I.fm hf hp) hf (dq_of hnd hv)⟩
  obtain ⟨i, _, rfl⟩ := List.mem_map.mp hl
  exact hf i
theorem seq_call {te : TE} {u : TS} {i : Nat} {D : Ends} (h : te σ H fun v H1 => u D (σ.set i (some v)) H1) : tSeq (tAsg te (gName i)) u D σ H := h
theorem divInt_nn {i : Int} (h : 0 ≤ i) : 0 ≤ Rat.divInt i 1 := by
  obtain ⟨p1, _⟩ := divInt_parts (t := i) (b := 1) (by decide)
  simp at p1
  have := Rat.num_nonneg (q := Rat.divInt i 1)
  rw [← this, p1]; exact h
abbrev s_law : Stmt := topS 70
theorem sc_law : FnScope ["_law_script", "_law_pen_here", "_law_lines_here", "_law_more", "_law_late", "_law_others", "_law_k", "_law_time", "_law_high", "_law_line"] ["_law_script"] (defScope s_law) := ⟨rfl, rfl, rfl, by decide +kernel, rfl, by decide +kernel, by decide +kernel⟩
theorem ok_law {fl : Addr} {fd : FuncData} (F : Fun K "law" "law" s_law fl fd) (C__law_pen : Cal P w K mg base 1 "_law_pen" ["_law_script", "_law_k"] (SpO K R_pen)) (C__law_lines : Cal P w K mg base 3 "_law_lines" ["_law_pen_here"] (spLines K)) (C__law_take : Cal P w K mg base 1 "_law_take" ["_law_pen_here", "_law_many"] (SpM K 1 R_take))
    (C__law_number : Cal P w K mg base 2 "_law_number" ["_law_pen_here", "_law_kind"] (SpM K 2 R_number)) (C__law_sent : Cal P w K mg base 3 "_law_sent" ["_law_line", "_law_more", "_law_late"] (SpI K R_sent)) (C__law_rows_alike : Cal P w K mg base 9 "_law_rows_alike" ["_law_lines_here", "_law_others", "_law_late"] (SpI K R_rows_alike))
    (C__law_covers_alike : Cal P w K mg base 9 "_law_covers_alike" ["_law_lines_here", "_law_others"] (SpI K R_covers_alike)) (C__law_when : Cal P w K mg base 3 "_law_when" ["_law_pen_here", "_law_lines_here"] (SpM K 8 R_when)) (C__law_alike_at : Cal P w K mg base 8 "_law_alike_at" ["_law_lines_here", "_law_others", "_law_time", "_law_late"] (SpI K R_alike_at))
    (C__law_plus : Cal P w K mg base 2 "_law_plus" ["_law_a", "_law_b", "_law_sign"] (SpI K R_plus)) (C__law_going_alike : Cal P w K mg base 33 "_law_going_alike" ["_law_lines_here", "_law_others", "_law_low", "_law_high", "_law_late"] (SpI K R_going_alike)) (T : Txt mg) :
    FnOk P w K mg base CX0 34 fl fd ["_law_script"] (spLaw K) := by
  refine F.ok sc_law (fun vs H Q E h => by obtain ⟨a, ns, rfl, _⟩ := h; rfl) (fun cdv A outer s H vs Q E hr h => ?_)
  obtain ⟨sa, ns, rfl, hs, hns, k⟩ := h
  refine ⟨_, (pss_cons (ps_set (i := 1) sc_law.nd rfl (.inl rfl) (pe_cal C__law_pen (hr.mono (by omega)) (by rfl) (pa_cons (pv 0) (pa_cons pe_int pa_nil))))
      (pss_cons (ps_set (i := 2) sc_law.nd rfl (.inl rfl) (pe_cal C__law_lines (hr.mono (by omega)) (by rfl) (pa_cons (pv 1) pa_nil)))
      (pss_cons (ps_set (i := 3) sc_law.nd rfl (.inr rfl) (pe_tup (pa_cons (pe_cal C__law_number (hr.mono (by omega)) (by rfl) (pa_cons (pv 1) (pa_cons (pe_cal C__law_take (hr.mono (by omega)) (by rfl) (pa_cons (pv 1) (pa_cons pe_int pa_nil))) pa_nil))) (pa_cons (pe_cal C__law_number (hr.mono (by omega)) (by rfl) (pa_cons (pv 1) (pa_cons (pe_cal C__law_take (hr.mono (by omega)) (by rfl) (pa_cons (pv 1) (pa_cons pe_int pa_nil))) pa_nil))) pa_nil))))
      (pss_cons (ps_set (i := 4) sc_law.nd rfl (.inr rfl) (pe_cal C__law_number (hr.mono (by omega)) (by rfl) (pa_cons (pv 1) (pa_cons (pe_cal C__law_take (hr.mono (by omega)) (by rfl) (pa_cons (pv 1) (pa_cons pe_int pa_nil))) pa_nil))))
      (pss_cons (ps_setLc (i := 5) (py := _) (own := [("_law_line", 9)]) (tt := tYes) rfl sc_law.nd rfl rfl (sw_true rfl rfl rfl (by decide +kernel)) (pi_list (pv 2)) (blkOk_by (own := [("_law_line", 9)]) (N := ["_law_script", "_law_pen_here", "_law_lines_here", "_law_more", "_law_late", "_law_others", "_law_k", "_law_time", "_law_high", "_law_line"]) (sc := defScope (topS 70)) (by decide +kernel)) (fun _ _ _ _ _ => (pg_name (i := 9) sc_law.nd rfl (.inl rfl) (.inr rfl))) (fun _ _ _ _ _ => pts_nil) (fun _ _ _ _ _ => (pe_cal C__law_sent (hr.mono (by omega)) (by rfl) (pa_cons (pv 9) (pa_cons (pv 3) (pa_cons (pv 4) pa_nil))))))
      (pss_cons (ps_if (PW.pt (pw_or (pt_not (pt_val (pe_cal C__law_rows_alike (hr.mono (by omega)) (by rfl) (pa_cons (pv 2) (pa_cons (pv 5) (pa_cons (pv 4) pa_nil)))))) (pw_or1 (pt_not (pt_val (pe_cal C__law_covers_alike (hr.mono (by omega)) (by rfl) (pa_cons (pv 2) (pa_cons (pv 5) pa_nil)))))))) (pss_one (ps_ret pe_bl)) pss_nil)
      (pss_cons (ps_for PassesOwn.never rfl (pi_range1 (by rfl) T.z_range (pa_cons pe_int pa_nil)) (pg_name (i := 6) sc_law.nd rfl (.inl rfl)) (pss_cons (ps_set (i := 7) sc_law.nd rfl (.inl rfl) (pe_cal C__law_when (hr.mono (by omega)) (by rfl) (pa_cons (pv 1) (pa_cons (pv 2) pa_nil))))
      (pss_cons (ps_if (pt_not (pt_val (pe_cal C__law_alike_at (hr.mono (by omega)) (by rfl) (pa_cons (pv 2) (pa_cons (pv 5) (pa_cons (pv 7) (pa_cons (pv 4) pa_nil))))))) (pss_one (ps_ret pe_bl)) pss_nil)
      (pss_cons (ps_set (i := 8) sc_law.nd rfl (.inl rfl) (pe_cal C__law_plus (hr.mono (by omega)) (by rfl) (pa_cons (pv 7) (pa_cons (pe_tup (pa_cons (pe_cal C__law_take (hr.mono (by omega)) (by rfl) (pa_cons (pv 1) (pa_cons pe_int pa_nil))) (pa_cons pe_int pa_nil))) (pa_cons pe_int pa_nil)))))
      (pss_one (ps_if (pt_not (pt_val (pe_cal C__law_going_alike (hr.mono (by omega)) (by rfl) (pa_cons (pv 2) (pa_cons (pv 5) (pa_cons (pv 7) (pa_cons (pv 8) (pa_cons (pv 4) pa_nil)))))))) (pss_one (ps_ret pe_bl)) pss_nil))))))
      (pss_one (ps_ret pe_bl))))))))), ?_⟩
  have I0 : Env K H H (L2.start _ [.ref sa]) (start0 [.list (ns.map .int)] 10) := env_start (N := ["_law_script", "_law_pen_here", "_law_lines_here", "_law_more", "_law_late", "_law_others", "_law_k", "_law_time", "_law_high", "_law_line"]) (.cons (.lst hs (ints_dp ns)) .nil) (by show 1 ≤ 10; decide)
  refine seq_call ?_
  refine (eo_call (R := R_pen) (eap_cons (ev_var (G := start0 [.list (ns.map .int)] 10) (i := 0) rfl).p (eap_cons ev_int.p eap_nil)) ⟨ns, hns, rfl, rfl⟩) _ H I0 _ fun p H1 xs hp0 e1 hp hd => ?_
  have hpen : Pen H1 p 1000 := by
    unfold penL at hd
    split at hd
    · have := ints_of (ns := [_, _, 1]) hd
      subst this
      exact ⟨_, _, 1, hp, by decide, by decide⟩
    · have := ints_of (ns := [0, _, 1]) hd
      subst this
      exact ⟨_, _, 1, hp, by decide, by decide⟩
  have I1 : EnvP K H p 1 H1 [some (.ref sa), some (.ref p), none, none, none, none, none, none, none, none] [.im (.list (ns.map .int)), .vl (.ref p), .no, .no, .no, .no, .no, .no, .no, .no] 1000 := by
    have I1 := I0.ex e1
    have no : ∀ (i : Nat) (b : Addr) (es : List PD), ([.im (.list (ns.map .int)), .vl (.ref p), .no, .no, .no, .no, .no, .no, .no, .no] : List Sl)[i]? ≠ some (Sl.ow b es) := fun i b es h => by
      match i, h with
      | 0, h => simp at h
      | 1, h => simp at h
      | 2, h => simp at h
      | 3, h => simp at h
      | 4, h => simp at h
      | 5, h => simp at h
      | 6, h => simp at h
      | 7, h => simp at h
      | 8, h => simp at h
      | 9, h => simp at h
      | i + 10, h => simp at h
    refine ⟨⟨e1, rfl, fun i x s h1 h2 => ?_, fun i j b es fs h1 h2 => absurd h1 (no i b es)⟩, fun ⟨i, es, h1⟩ => no i p es h1, hp0, rfl, hpen⟩
    by_cases c : i = 1
    · subst c
      simp at h1 h2
      subst h1 h2
      rfl
    · have h1' : (L2.start ["_law_script", "_law_pen_here", "_law_lines_here", "_law_more", "_law_late", "_law_others", "_law_k", "_law_time", "_law_high", "_law_line"] [.ref sa])[i]? = some x := by
        have : ((L2.start ["_law_script", "_law_pen_here", "_law_lines_here", "_law_more", "_law_late", "_law_others", "_law_k", "_law_time", "_law_high", "_law_line"] [V.ref sa]).set 1 (some (.ref p)))[i]? = some x := h1
        rw [List.getElem?_set_ne (by omega)] at this
        exact this
      have h2' : (start0 [.list (ns.map .int)] 10)[i]? = some s := by
        have : ((start0 [.list (ns.map .int)] 10).set 1 (.vl (.ref p)))[i]? = some s := h2
        rw [List.getElem?_set_ne (by omega)] at this
        exact this
      exact I1.at_ i x s h1' h2'
  have takeN : ∀ {G : List Sl}, EvM K H p 1 (1 + 0 + 2) (tCall (SpM K 2 R_number) [] E0 (tCons (tVar 1) (tCons (tCall (SpM K 1 R_take) [] E0 (tCons (tVar 1) (tCons (tC (.int 2)) tNil))) tNil))) G Num := fun {G} => em_number (em_take (many := 2) (by decide) (by decide)) (fun d ⟨i, e, _⟩ => ⟨i, e⟩)
  have go : ∀ {t : TS} {G : List Sl} {σ : L2.St}, EnvP K H p 1 H1 σ G 1000 → StM K H p 1 t G 1000 (fun _ _ => False) (fun r _ => r = .im (.bool true)) → t { nx := fun _ H' => Q .non H', rt := Q } σ H1 := fun {t G σ} I h =>
    h σ H1 _ I (fun _ _ _ _ z => z.elim) (fun v d H' m' e hpn hsm ts hv => by
      cases e
      have := hv.dp hsm
      cases this
      exact k H') (fun b ds xs H' m' e => by cases e)
  refine go I1 ?_
  refine m_seq (m_lines (by decide) (by decide) (fun b n f hn hf => ?_))
  refine m_seq (m_set (k := 1 + 0 + 2 + (1 + 0 + 2 + 0)) (Φ := fun d => ∃ mo : Ln, d = lnD mo ∧ Sz 10 mo.1 ∧ Sz 10 mo.2) ((em_tup (ema_cons takeN (ema_cons takeN ema_nil)) (fun ds ⟨_, _, e1, _, _, _, e2, _, e3⟩ => by subst e1 e2 e3; simp)).imp fun d hd => ?_) (by omega) (by decide) ?_)
  · obtain ⟨ds, rfl, d1, r1, rfl, ⟨q1, rfl, z1⟩, d2, r2, rfl, ⟨q2, rfl, z2⟩, rfl⟩ := hd
    exact ⟨(q1, q2), rfl, z1, z2⟩
  rintro d ⟨mo, rfl, hm1, hm2⟩
  refine m_seq (m_set takeN (by omega) (by decide) ?_)
  rintro d ⟨lt, rfl, hlt⟩
  have hF : SzF f := fun i => ⟨sz_mono (hf i).1 (by decide), sz_mono (hf i).2 (by decide)⟩
  have hF' : SzF (fun i => sent mo lt (f i)) := fun i => ⟨sz_mono (sz_sub (sz_add (hf i).1 hm1) (sz_mul (sz_add (hf i).2 hm2) hlt)) (by decide), sz_mono (sz_add (hf i).2 hm2) (by decide)⟩
  have hn1 : n ≤ 100 := by omega
  refine m_seq (m_setO (ds := (List.range n).map fun i => lnD (sent mo lt (f i))) (eo_lc (ds := (List.range n).map fun i => lnD (f i)) (ep_var rfl) (by rw [List.length_map, List.length_range]; exact small_sz (by omega)) (by simp) (fun B' x d e hd he => ?_)) (lines_noL n fun i => sent mo lt (f i)) (by decide) (fun b2 => ?_))
  · rw [List.getElem?_map] at hd he
    obtain ⟨i, hi, rfl⟩ := Option.map_eq_some_iff.mp hd
    rw [hi] at he
    cases he
    exact ⟨_, tg_name (j := 9) (by decide), ev_sent (hf i).1 (hf i).2 hm1 hm2 hlt (ev_var rfl).p (ev_var rfl).p (ev_var rfl).p⟩
  have epl : ∀ {B : Hp} {G : List Sl}, G[2]? = some (.ow b ((List.range n).map fun i => lnD (f i))) → EvP K B (tVar 2) G (linesD n f) := fun h => ep_var h
  have epo : ∀ {B : Hp} {G : List Sl}, G[5]? = some (.ow b2 ((List.range n).map fun i => lnD (sent mo lt (f i)))) → EvP K B (tVar 5) G (linesD n (fun i => sent mo lt (f i))) := fun h => ep_var h
  refine m_seq (m_if (b := false) ((et_or (et_not (et_B (ev_rows_alike hF hF' hn1 hlt (epl rfl) (epo rfl) (ev_var rfl).p))) (fun _ => et_not (et_B (ev_covers_alike hF hF' hn1 (epl rfl) (epo rfl))))).is rfl) (fun z => nomatch z) (fun _ => m_next ?_))
  refine m_seqM (M := fun G' _ => True) (m_for (l := 3) (k := 0) ((ema_cons (em_ev ev_int) ema_nil).imp fun ds hds => by
      obtain ⟨d, r, e1, e2, e3⟩ := hds
      subst e1 e2 e3
      exact ⟨3, rfl, by omega⟩) (by omega) (by omega) (by decide)
      (fun x G' m' => ∃ s6 s7 s8, G' = [.im (.list (ns.map .int)), .vl (.ref p), .ow b ((List.range n).map fun i => lnD (f i)), .im (lnD mo), .im (nm lt), .ow b2 ((List.range n).map fun i => lnD (sent mo lt (f i))), s6, s7, s8, .no] ∧ 100 ≤ m' + 10 * x) ⟨_, _, _, rfl, by omega⟩ ?_ (fun _ _ _ _ _ => trivial)) (fun G' m' _ => m_ret (k := 0) (em_ev ev_bl) (by omega) (fun d hd => by subst hd; rfl))
  rintro x G' m' hx ⟨s6, s7, s8, rfl, hm⟩
  refine m_seq (m_set (em_when rfl hn hf) (by omega) (by decide) ?_)
  rintro d ⟨tm, rfl, htm⟩
  refine m_seq (m_if (b := false) ((et_not (et_B (ev_alike_at hF hF' hn1 (sz_mono htm (by decide)) hlt (epl rfl) (epo rfl) (ev_var rfl).p (ev_var rfl).p))).is rfl) (fun z => nomatch z) (fun _ => m_next ?_))
  refine m_seq (m_set (k := 0 + (1 + (0 + 0) + (0 + 0))) (Φ := fun d => ∃ q : Rat, d = nm (tm + q) ∧ 0 ≤ q ∧ Sz 10 q) (em_call (Rr := R_plus) (ema_cons (em_ev (ev_var rfl)) (ema_cons (em_tup (ema_cons (em_take (many := 9) (by decide) (by decide)) (ema_cons (em_ev (ev_int (i := 1))) ema_nil)) (fun ds ⟨_, _, e1, _, _, _, e2, _, e3⟩ => by subst e1 e2 e3; simp)) (ema_cons (em_ev (ev_int (i := 1))) ema_nil))) (fun ds hds => ?_)) (by omega) (by decide) ?_)
  · obtain ⟨d1, r1, rfl, rfl, d2, r2, rfl, ⟨ds2, rfl, d3, r3, rfl, ⟨i, rfl, i0, i1⟩, d4, r4, rfl, rfl, rfl⟩, d5, r5, rfl, rfl, rfl⟩ := hds
    have hz : Sz 10 (Rat.divInt i 1) := sz_small (by decide) (by omega) (by decide)
    refine ⟨_, ⟨tm, Rat.divInt i 1, 1, szb htm, szb hz, .inl rfl, by rw [nm_int], rfl⟩, rfl, Rat.divInt i 1, by unfold plusD; rw [if_pos rfl], divInt_nn i0, hz⟩
  rintro d ⟨q, rfl, hq0, hqz⟩
  have hlt2 : ¬ tm + q < tm := by grind
  refine m_if (b := false) ((et_not (et_B (ev_going_alike hF hF' (by omega) (sz_mono htm (by decide)) (sz_mono (sz_add htm hqz) (by decide)) hlt2 hlt (epl rfl) (epo rfl) (ev_var rfl).p (ev_var rfl).p (ev_var rfl).p))).is rfl) (fun z => nomatch z) (fun _ => m_next ⟨_, _, _, rfl, by omega⟩)
end
end PF

-- P30
set_option linter.all false
set_option maxRecDepth 100000
set_option maxHeartbeats 4000000
namespace PF
open PySem PySem.Spec PyProof.Rows L2 LT
theorem gl_mk {K : PySem.W.Frag} {h : Heap} {mg : Str → Option Value} {x : Str} {g : Addr} {od : Option Addr} {i j : Int} {t u : Nat} {n : Nat} {sl : Array (Option Value)} {q : Rat} (X : K.In h) (G : h.Ns mainGlobals mg) (a : PySem.W.nsIn K mainGlobals x = some (some (.ref g))) (l : K.lookup g = some ⟨.type "tuple", od, .seq #[.int i t, .int j u] n, sl⟩) (h1 : q.num = i) (h2 : (q.den : Int) = j) : GlN K mg x q := by
  refine ⟨g, PySem.W.mg_of X G a, fun H => ?_⟩
  unfold nm
  rw [h1, h2]
  have hv : Vals [V.int i, V.int j] [Value.int i t, Value.int j u] := .cons ⟨t, rfl⟩ (.cons ⟨u, rfl⟩ .nil)
  exact .tup (.inr ⟨_, _, _, l, rfl, rfl, (by show 2 ≤ sizeLine; decide), hv⟩) (.cons (.int _) (.cons (.int _) .nil))
theorem chain {P : Program} {w : World} {K : PySem.W.Frag} {mg : Str → Option Value} {base : Heap} {CK CW fl : Addr} {fd : FuncData} (T : TxtK K mg CK CW) (gO : GlN K mg "ONE" 1) (gN : GlN K mg "NOUGHT" 0)
    (D_is_whole : Df K mg "is_whole" s_is_whole ["thing"])
    (D_common : Df K mg "common" s_common ["one", "other"])
    (D_number_of : Df K mg "number_of" s_number_of ["top", "bottom"])
    (D_sum_of : Df K mg "sum_of" s_sum_of ["a", "b"])
    (D_difference_of : Df K mg "difference_of" s_difference_of ["a", "b"])
    (D_product_of : Df K mg "product_of" s_product_of ["a", "b"])
    (D_quotient_of : Df K mg "quotient_of" s_quotient_of ["a", "b"])
    (D_is_less : Df K mg "is_less" s_is_less ["a", "b"])
    (D_place_at : Df K mg "place_at" s_place_at ["line", "time"])
    (D_meeting : Df K mg "meeting" s_meeting ["one", "other"])
    (D_is_ahead : Df K mg "is_ahead" s_is_ahead ["lines", "one", "other", "time"])
    (D_next_change : Df K mg "next_change" s_next_change ["lines", "one", "other", "time"])
    (D_till_of : Df K mg "till_of" s_till_of ["lines", "one", "other", "time"])
    (D_passing_time : Df K mg "passing_time" s_passing_time ["one", "other"])
    (D_order_at : Df K mg "order_at" s_order_at ["lines", "time"])
    (D_ahead_of_all : Df K mg "ahead_of_all" s_ahead_of_all ["lines", "time"])
    (D_first_leader : Df K mg "first_leader" s_first_leader ["lines"])
    (D_passed_at : Df K mg "passed_at" s_passed_at ["lines", "leader", "since"])
    (D_earliest : Df K mg "earliest" s_earliest ["times"])
    (D_leaders : Df K mg "leaders" s_leaders ["lines"])
    (D_is_row : Df K mg "is_row" s_is_row ["lines", "row"])
    (D_front : Df K mg "front" s_front ["lines", "time"])
    (D_cover : Df K mg "cover" s_cover ["lines", "runner"])
    (D_is_always_ahead : Df K mg "is_always_ahead" s_is_always_ahead ["lines", "one", "runner"])
    (D_are_joint : Df K mg "are_joint" s_are_joint ["lines", "runner", "one", "other"])
    (D_is_cover : Df K mg "is_cover" s_is_cover ["lines", "runner", "one", "other"])
    (D_nearest : Df K mg "nearest" s_nearest ["lines", "time"])
    (D_papers_at : Df K mg "papers_at" s_papers_at ["lines", "time"])
    (D_put_in : Df K mg "put_in" s_put_in ["found", "time", "pair"])
    (D_changes : Df K mg "changes" s_changes ["lines", "low", "high"])
    (D_change_times : Df K mg "change_times" s_change_times ["lines"])
    (D_rank_row : Df K mg "rank_row" s_rank_row ["lines", "k"])
    (D_comes_ahead : Df K mg "comes_ahead" s_comes_ahead ["pair", "other"])
    (D_right_way : Df K mg "right_way" s_right_way ["shape"])
    (D_laid : Df K mg "laid" s_laid ["pair", "one", "other"])
    (D_merged : Df K mg "merged" s_merged ["one", "other"])
    (D_without : Df K mg "without" s_without ["shape", "pair"])
    (D_Waiting_init : Di K mg CW "Waiting" "Waiting.__init__" s_Waiting_init ["self"])
    (D_Waiting_put : Dm K CW "put" "Waiting.put" s_Waiting_put ["self", "time", "key"])
    (D_Waiting_take : Dm K CW "take" "Waiting.take" s_Waiting_take ["self", "time", "key"])
    (D_Waiting_first : Dm K CW "first" "Waiting.first" s_Waiting_first ["self"])
    (D_Walk_paper_at : Dm K CK "paper_at" "Walk.paper_at" s_Walk_paper_at ["self", "at"])
    (D_Walk_papers : Dm K CK "papers" "Walk.papers" s_Walk_papers ["self"])
    (D_Walk_keep : Dm K CK "keep" "Walk.keep" s_Walk_keep ["self", "at"])
    (D_Walk_drop : Dm K CK "drop" "Walk.drop" s_Walk_drop ["self", "at"])
    (D_Walk_step : Dm K CK "step" "Walk.step" s_Walk_step ["self"])
    (D_Walk_go : Dm K CK "go" "Walk.go" s_Walk_go ["self", "time"])
    (D_Walk_init : Di K mg CK "Walk" "Walk.__init__" s_Walk_init ["self", "lines", "time"])
    (D__law_lowest : Df K mg "_law_lowest" s__law_lowest ["_law_top", "_law_bottom"])
    (D__law_plus : Df K mg "_law_plus" s__law_plus ["_law_a", "_law_b", "_law_sign"])
    (D__law_times : Df K mg "_law_times" s__law_times ["_law_a", "_law_b"])
    (D__law_sent : Df K mg "_law_sent" s__law_sent ["_law_line", "_law_more", "_law_late"])
    (D__law_later : Df K mg "_law_later" s__law_later ["_law_time", "_law_late"])
    (D__law_rows_alike : Df K mg "_law_rows_alike" s__law_rows_alike ["_law_lines_here", "_law_others", "_law_late"])
    (D__law_covers_alike : Df K mg "_law_covers_alike" s__law_covers_alike ["_law_lines_here", "_law_others"])
    (D__law_alike_at : Df K mg "_law_alike_at" s__law_alike_at ["_law_lines_here", "_law_others", "_law_time", "_law_late"])
    (D__law_going_alike : Df K mg "_law_going_alike" s__law_going_alike ["_law_lines_here", "_law_others", "_law_low", "_law_high", "_law_late"])
    (D__law_pen : Df K mg "_law_pen" s__law_pen ["_law_script", "_law_k"])
    (D__law_take : Df K mg "_law_take" s__law_take ["_law_pen_here", "_law_many"])
    (D__law_number : Df K mg "_law_number" s__law_number ["_law_pen_here", "_law_kind"])
    (D__law_lines : Df K mg "_law_lines" s__law_lines ["_law_pen_here"])
    (D__law_when : Df K mg "_law_when" s__law_when ["_law_pen_here", "_law_lines_here"])
    (F : Fun K "law" "law" s_law fl fd) : FnOk P w K mg base CX0 34 fl fd ["_law_script"] (spLaw K) := by
  have C_is_whole := ok_is_whole (P := P) (w := w) (mg := mg) (base := base) (D := D_is_whole) (T := T.toTxt)
  have C_common := ok_common (P := P) (w := w) (mg := mg) (base := base) (D := D_common) (T := T.toTxt)
  have C_number_of := ok_number_of (P := P) (w := w) (mg := mg) (base := base) (D := D_number_of) (T := T.toTxt) (C_is_whole := C_is_whole) (C_common := C_common)
  have C_sum_of := ok_sum_of (P := P) (w := w) (mg := mg) (base := base) (D := D_sum_of) (C_number_of := C_number_of)
  have C_difference_of := ok_difference_of (P := P) (w := w) (mg := mg) (base := base) (D := D_difference_of) (C_number_of := C_number_of)
  have C_product_of := ok_product_of (P := P) (w := w) (mg := mg) (base := base) (D := D_product_of) (C_number_of := C_number_of)
  have C_quotient_of := ok_quotient_of (P := P) (w := w) (mg := mg) (base := base) (D := D_quotient_of) (C_number_of := C_number_of)
  have C_is_less := ok_is_less (P := P) (w := w) (mg := mg) (base := base) (D := D_is_less)
  have C_place_at := ok_place_at (P := P) (w := w) (mg := mg) (base := base) (D := D_place_at) (C_sum_of := C_sum_of) (C_product_of := C_product_of)
  have C_meeting := ok_meeting (P := P) (w := w) (mg := mg) (base := base) (D := D_meeting) (C_quotient_of := C_quotient_of) (C_difference_of := C_difference_of)
  have C_is_ahead := ok_is_ahead (P := P) (w := w) (mg := mg) (base := base) (D := D_is_ahead) (C_place_at := C_place_at) (C_is_less := C_is_less)
  have C_next_change := ok_next_change (P := P) (w := w) (mg := mg) (base := base) (D := D_next_change) (C_meeting := C_meeting) (C_is_less := C_is_less)
  have C_till_of := ok_till_of (P := P) (w := w) (mg := mg) (base := base) (D := D_till_of) (C_is_ahead := C_is_ahead) (C_next_change := C_next_change)
  have C_passing_time := ok_passing_time (P := P) (w := w) (mg := mg) (base := base) (D := D_passing_time) (C_meeting := C_meeting) (C_is_less := C_is_less)
  have C_order_at := ok_order_at (P := P) (w := w) (mg := mg) (base := base) (D := D_order_at) (T := T.toTxt) (C_is_ahead := C_is_ahead)
  have C_ahead_of_all := ok_ahead_of_all (P := P) (w := w) (mg := mg) (base := base) (D := D_ahead_of_all) (T := T.toTxt) (C_is_ahead := C_is_ahead)
  have C_first_leader := ok_first_leader (P := P) (w := w) (mg := mg) (base := base) (D := D_first_leader) (T := T.toTxt) (C_is_less := C_is_less)
  have C_passed_at := ok_passed_at (P := P) (w := w) (mg := mg) (base := base) (D := D_passed_at) (T := T.toTxt) (C_is_less := C_is_less) (C_meeting := C_meeting)
  have C_earliest := ok_earliest (P := P) (w := w) (mg := mg) (base := base) (D := D_earliest) (C_is_less := C_is_less)
  have C_leaders := ok_leaders (P := P) (w := w) (mg := mg) (base := base) (D := D_leaders) (C_first_leader := C_first_leader) (C_passed_at := C_passed_at) (C_earliest := C_earliest) (C_ahead_of_all := C_ahead_of_all)
  have C_is_row := ok_is_row (P := P) (w := w) (mg := mg) (base := base) (D := D_is_row) (C_leaders := C_leaders)
  have C_front := ok_front (P := P) (w := w) (mg := mg) (base := base) (D := D_front) (T := T.toTxt) (C_place_at := C_place_at) (C_is_less := C_is_less)
  have C_cover := ok_cover (P := P) (w := w) (mg := mg) (base := base) (D := D_cover) (T := T.toTxt) (C_leaders := C_leaders) (C_is_less := C_is_less)
  have C_is_always_ahead := ok_is_always_ahead (P := P) (w := w) (mg := mg) (base := base) (D := D_is_always_ahead) (C_is_ahead := C_is_ahead)
  have C_are_joint := ok_are_joint (P := P) (w := w) (mg := mg) (base := base) (D := D_are_joint) (C_is_less := C_is_less) (C_meeting := C_meeting)
  have C_is_cover := ok_is_cover (P := P) (w := w) (mg := mg) (base := base) (D := D_is_cover) (T := T.toTxt) (C_is_always_ahead := C_is_always_ahead) (C_are_joint := C_are_joint)
  have C_nearest := ok_nearest (P := P) (w := w) (mg := mg) (base := base) (D := D_nearest) (T := T.toTxt) (C_order_at := C_order_at) (C_difference_of := C_difference_of) (C_place_at := C_place_at) (C_is_less := C_is_less)
  have C_papers_at := ok_papers_at (P := P) (w := w) (mg := mg) (base := base) (D := D_papers_at) (T := T.toTxt) (C_order_at := C_order_at) (C_next_change := C_next_change)
  have C_put_in := ok_put_in (P := P) (w := w) (mg := mg) (base := base) (D := D_put_in) (T := T.toTxt) (C_is_less := C_is_less)
  have C_changes := ok_changes (P := P) (w := w) (mg := mg) (base := base) (D := D_changes) (T := T.toTxt) (C_passing_time := C_passing_time) (C_is_less := C_is_less) (C_put_in := C_put_in)
  have C_change_times := ok_change_times (P := P) (w := w) (mg := mg) (base := base) (D := D_change_times) (T := T.toTxt) (C_passing_time := C_passing_time) (C_put_in := C_put_in)
  have C_rank_row := ok_rank_row (P := P) (w := w) (mg := mg) (base := base) (D := D_rank_row) (T := T.toTxt) (gO := gO) (gN := gN) (C_change_times := C_change_times) (C_difference_of := C_difference_of) (C_order_at := C_order_at)
  have C_comes_ahead := ok_comes_ahead (P := P) (w := w) (mg := mg) (base := base) (D := D_comes_ahead) (C_is_less := C_is_less)
  have C_right_way := (ok_right_way (P := P) (w := w) (mg := mg) (base := base) (D := D_right_way)) 8
  have C_laid := ok_laid (P := P) (w := w) (mg := mg) (base := base) (D := D_laid) (C_right_way := C_right_way)
  have C_merged := (ok_merged (P := P) (w := w) (mg := mg) (base := base) (D := D_merged) (C_comes_ahead := C_comes_ahead) (C_laid := C_laid)) 8
  have C_without := (ok_without (P := P) (w := w) (mg := mg) (base := base) (D := D_without) (C_comes_ahead := C_comes_ahead) (C_laid := C_laid) (C_merged := C_merged)) 8
  have M_Waiting := ok_Waiting_init (P := P) (w := w) (mg := mg) (base := base) (D := D_Waiting_init) (T := T.w)
  have C_Waiting_put := ok_Waiting_put (P := P) (w := w) (mg := mg) (base := base) (D := D_Waiting_put) (T := T.w) (C_merged := C_merged)
  have C_Waiting_take := ok_Waiting_take (P := P) (w := w) (mg := mg) (base := base) (D := D_Waiting_take) (T := T.w) (C_without := C_without)
  have C_Waiting_first := ok_Waiting_first (P := P) (w := w) (mg := mg) (base := base) (D := D_Waiting_first) (T := T.w)
  have C_Walk_paper_at := ok_Walk_paper_at (P := P) (w := w) (mg := mg) (base := base) (D := D_Walk_paper_at) (T := T) (C_till_of := C_till_of)
  have C_Walk_papers := ok_Walk_papers (P := P) (w := w) (mg := mg) (base := base) (D := D_Walk_papers) (T := T) (C_Walk_paper_at := C_Walk_paper_at)
  have C_Walk_keep := ok_Walk_keep (P := P) (w := w) (mg := mg) (base := base) (D := D_Walk_keep) (T := T) (C_Walk_paper_at := C_Walk_paper_at) (C_Waiting_put := C_Waiting_put)
  have C_Walk_drop := ok_Walk_drop (P := P) (w := w) (mg := mg) (base := base) (D := D_Walk_drop) (T := T) (C_Walk_paper_at := C_Walk_paper_at) (C_Waiting_take := C_Waiting_take)
  have C_Walk_step := ok_Walk_step (P := P) (w := w) (mg := mg) (base := base) (D := D_Walk_step) (T := T) (C_Waiting_first := C_Waiting_first) (C_Walk_papers := C_Walk_papers) (C_Walk_drop := C_Walk_drop) (C_Walk_keep := C_Walk_keep)
  have C_Walk_go := ok_Walk_go (P := P) (w := w) (mg := mg) (base := base) (D := D_Walk_go) (T := T) (C_is_less := C_is_less) (C_Waiting_first := C_Waiting_first) (C_Walk_step := C_Walk_step)
  have M_Walk := ok_Walk_init (P := P) (w := w) (mg := mg) (base := base) (D := D_Walk_init) (T := T) (C_order_at := C_order_at) (M_Waiting := M_Waiting) (C_Walk_keep := C_Walk_keep)
  have C__law_lowest := ok__law_lowest (P := P) (w := w) (mg := mg) (base := base) (D := D__law_lowest) (T := T.toTxt)
  have C__law_plus := ok__law_plus (P := P) (w := w) (mg := mg) (base := base) (D := D__law_plus) (C__law_lowest := C__law_lowest)
  have C__law_times := ok__law_times (P := P) (w := w) (mg := mg) (base := base) (D := D__law_times) (C__law_lowest := C__law_lowest)
  have C__law_sent := ok__law_sent (P := P) (w := w) (mg := mg) (base := base) (D := D__law_sent) (C__law_plus := C__law_plus) (C__law_times := C__law_times)
  have C__law_later := ok__law_later (P := P) (w := w) (mg := mg) (base := base) (D := D__law_later) (C__law_plus := C__law_plus)
  have C__law_rows_alike := ok__law_rows_alike (P := P) (w := w) (mg := mg) (base := base) (D := D__law_rows_alike) (T := T.toTxt) (C_leaders := C_leaders) (C_is_row := C_is_row) (C_rank_row := C_rank_row) (C__law_later := C__law_later)
  have C__law_covers_alike := ok__law_covers_alike (P := P) (w := w) (mg := mg) (base := base) (D := D__law_covers_alike) (T := T.toTxt) (C_cover := C_cover) (C_is_cover := C_is_cover)
  have C__law_alike_at := ok__law_alike_at (P := P) (w := w) (mg := mg) (base := base) (D := D__law_alike_at) (C_order_at := C_order_at) (C_front := C_front) (C_papers_at := C_papers_at) (C_nearest := C_nearest) (C__law_later := C__law_later)
  have C__law_going_alike := ok__law_going_alike (P := P) (w := w) (mg := mg) (base := base) (D := D__law_going_alike) (T := T) (C_changes := C_changes) (M_Walk := M_Walk) (C_Walk_go := C_Walk_go) (C__law_later := C__law_later)
  have C__law_pen := ok__law_pen (P := P) (w := w) (mg := mg) (base := base) (D := D__law_pen) (T := T.toTxt)
  have C__law_take := ok__law_take (P := P) (w := w) (mg := mg) (base := base) (D := D__law_take) (T := T.toTxt)
  have C__law_number := ok__law_number (P := P) (w := w) (mg := mg) (base := base) (D := D__law_number) (C__law_take := C__law_take) (C__law_lowest := C__law_lowest)
  have C__law_lines := ok__law_lines (P := P) (w := w) (mg := mg) (base := base) (D := D__law_lines) (T := T.toTxt) (C__law_take := C__law_take) (C__law_number := C__law_number) (C__law_plus := C__law_plus) (C__law_times := C__law_times)
  have C__law_when := ok__law_when (P := P) (w := w) (mg := mg) (base := base) (D := D__law_when) (T := T.toTxt) (C__law_take := C__law_take) (C__law_number := C__law_number) (C__law_plus := C__law_plus) (C__law_lowest := C__law_lowest)
  exact ok_law (P := P) (w := w) (mg := mg) (base := base) (F := F) (C__law_pen := C__law_pen) (C__law_lines := C__law_lines) (C__law_take := C__law_take) (C__law_number := C__law_number) (C__law_sent := C__law_sent) (C__law_rows_alike := C__law_rows_alike) (C__law_covers_alike := C__law_covers_alike) (C__law_when := C__law_when) (C__law_alike_at := C__law_alike_at) (C__law_plus := C__law_plus) (C__law_going_alike := C__law_going_alike) (T := T.toTxt)
theorem all_mk {l : PySem.W.OpenLaw} {w : World} {K : PySem.W.Frag} {h : Heap} {mg : Str → Option Value} {fa CK CW gO gN f1 f2 f3 f4 f5 f6 f7 f8 f9 f10 f11 f12 f13 f14 f15 f16 f17 f18 f19 f20 f21 f22 f23 f24 f25 f26 f27 f28 f29 f30 f31 f32 f33 f34 f35 f36 f37 f38 f39 f40 f41 f42 f43 f44 f45 f46 f47 f48 f49 f50 f51 f52 f53 f54 f55 f56 f57 f58 f59 f60 f61 f62 f63 : Addr} (X : K.In h) (G : h.Ns mainGlobals mg) (hfa : mg "law" = some (.ref fa))
    {od1 an1 od2 an2 od3 an3 od4 an4 od5 an5 od6 an6 od7 an7 od8 an8 od9 an9 od10 an10 od11 an11 od12 an12 od13 an13 od14 an14 od15 an15 od16 an16 od17 an17 od18 an18 od19 an19 od20 an20 od21 an21 od22 an22 od23 an23 od24 an24 od25 an25 od26 an26 od27 an27 od28 an28 od29 an29 od30 an30 od31 an31 od32 an32 od33 an33 od34 an34 od35 an35 od36 an36 od37 an37 od38 an38 od39 an39 od40 an40 od41 an41 od42 an42 od43 an43 od44 an44 od45 an45 od46 an46 od47 an47 od48 an48 od49 an49 od50 an50 od51 an51 od52 an52 od53 an53 od54 an54 od55 an55 od56 an56 od57 an57 od58 an58 od59 an59 od60 an60 od61 an61 od62 an62 od63 an63 odO odN : Option Addr} {sl1 sl2 sl3 sl4 sl5 sl6 sl7 sl8 sl9 sl10 sl11 sl12 sl13 sl14 sl15 sl16 sl17 sl18 sl19 sl20 sl21 sl22 sl23 sl24 sl25 sl26 sl27 sl28 sl29 sl30 sl31 sl32 sl33 sl34 sl35 sl36 sl37 sl38 sl39 sl40 sl41 sl42 sl43 sl44 sl45 sl46 sl47 sl48 sl49 sl50 sl51 sl52 sl53 sl54 sl55 sl56 sl57 sl58 sl59 sl60 sl61 sl62 sl63 slO slN : Array (Option Value)} {oc1 kV1 dc1 pm1 cd1 ct1 oc2 kV2 dc2 pm2 cd2 ct2 oc3 kV3 dc3 pm3 cd3 ct3 oc4 kV4 dc4 pm4 cd4 ct4 oc5 kV5 dc5 pm5 cd5 ct5 oc6 kV6 dc6 pm6 cd6 ct6 oc7 kV7 dc7 pm7 cd7 ct7 oc8 kV8 dc8 pm8 cd8 ct8 oc9 kV9 dc9 pm9 cd9 ct9 oc10 kV10 dc10 pm10 cd10 ct10 oc11 kV11 dc11 pm11 cd11 ct11 oc12 kV12 dc12 pm12 cd12 ct12 oc13 kV13 dc13 pm13 cd13 ct13 oc14 kV14 dc14 pm14 cd14 ct14 oc15 kV15 dc15 pm15 cd15 ct15 oc16 kV16 dc16 pm16 cd16 ct16 oc17 kV17 dc17 pm17 cd17 ct17 oc18 kV18 dc18 pm18 cd18 ct18 oc19 kV19 dc19 pm19 cd19 ct19 oc20 kV20 dc20 pm20 cd20 ct20 oc21 kV21 dc21 pm21 cd21 ct21 oc22 kV22 dc22 pm22 cd22 ct22 oc23 kV23 dc23 pm23 cd23 ct23 oc24 kV24 dc24 pm24 cd24 ct24 oc25 kV25 dc25 pm25 cd25 ct25 oc26 kV26 dc26 pm26 cd26 ct26 oc27 kV27 dc27 pm27 cd27 ct27 oc28 kV28 dc28 pm28 cd28 ct28 oc29 kV29 dc29 pm29 cd29 ct29 oc30 kV30 dc30 pm30 cd30 ct30 oc31 kV31 dc31 pm31 cd31 ct31 oc32 kV32 dc32 pm32 cd32 ct32 oc33 kV33 dc33 pm33 cd33 ct33 oc34 kV34 dc34 pm34 cd34 ct34 oc35 kV35 dc35 pm35 cd35 ct35 oc36 kV36 dc36 pm36 cd36 ct36 oc37 kV37 dc37 pm37 cd37 ct37 oc38 kV38 dc38 pm38 cd38 ct38 oc39 kV39 dc39 pm39 cd39 ct39 oc40 kV40 dc40 pm40 cd40 ct40 oc41 kV41 dc41 pm41 cd41 ct41 oc42 kV42 dc42 pm42 cd42 ct42 oc43 kV43 dc43 pm43 cd43 ct43 oc44 kV44 dc44 pm44 cd44 ct44 oc45 kV45 dc45 pm45 cd45 ct45 oc46 kV46 dc46 pm46 cd46 ct46 oc47 kV47 dc47 pm47 cd47 ct47 oc48 kV48 dc48 pm48 cd48 ct48 oc49 kV49 dc49 pm49 cd49 ct49 oc50 kV50 dc50 pm50 cd50 ct50 oc51 kV51 dc51 pm51 cd51 ct51 oc52 kV52 dc52 pm52 cd52 ct52 oc53 kV53 dc53 pm53 cd53 ct53 oc54 kV54 dc54 pm54 cd54 ct54 oc55 kV55 dc55 pm55 cd55 ct55 oc56 kV56 dc56 pm56 cd56 ct56 oc57 kV57 dc57 pm57 cd57 ct57 oc58 kV58 dc58 pm58 cd58 ct58 oc59 kV59 dc59 pm59 cd59 ct59 oc60 kV60 dc60 pm60 cd60 ct60 oc61 kV61 dc61 pm61 cd61 ct61 oc62 kV62 dc62 pm62 cd62 ct62 oc63 kV63 dc63 pm63 cd63 ct63 : Value} {tO uO tN uN qO qN : Nat}
    (aCW : PySem.W.nsIn K mainGlobals "Waiting" = some (some (.ref CW))) (aCK : PySem.W.nsIn K mainGlobals "Walk" = some (some (.ref CK)))
    (a1 : PySem.W.nsIn K mainGlobals "is_whole" = some (some (.ref f1)))
    (l1 : K.lookup f1 = some ⟨oc1, od1, .func (PySem.W.fnOf "is_whole" "is_whole" (defArgs s_is_whole) (defBody s_is_whole) (defScope s_is_whole) .none kV1 dc1 pm1 an1 cd1 ct1), sl1⟩) (c1 : PySem.W.codeIn K cd1 "is_whole" = true) (k1 : PySem.W.keepIn K (.ref f1) = true)
    (a2 : PySem.W.nsIn K mainGlobals "common" = some (some (.ref f2)))
    (l2 : K.lookup f2 = some ⟨oc2, od2, .func (PySem.W.fnOf "common" "common" (defArgs s_common) (defBody s_common) (defScope s_common) .none kV2 dc2 pm2 an2 cd2 ct2), sl2⟩) (c2 : PySem.W.codeIn K cd2 "common" = true) (k2 : PySem.W.keepIn K (.ref f2) = true)
    (a3 : PySem.W.nsIn K mainGlobals "number_of" = some (some (.ref f3)))
    (l3 : K.lookup f3 = some ⟨oc3, od3, .func (PySem.W.fnOf "number_of" "number_of" (defArgs s_number_of) (defBody s_number_of) (defScope s_number_of) .none kV3 dc3 pm3 an3 cd3 ct3), sl3⟩) (c3 : PySem.W.codeIn K cd3 "number_of" = true) (k3 : PySem.W.keepIn K (.ref f3) = true)
    (a4 : PySem.W.nsIn K mainGlobals "sum_of" = some (some (.ref f4)))
    (l4 : K.lookup f4 = some ⟨oc4, od4, .func (PySem.W.fnOf "sum_of" "sum_of" (defArgs s_sum_of) (defBody s_sum_of) (defScope s_sum_of) .none kV4 dc4 pm4 an4 cd4 ct4), sl4⟩) (c4 : PySem.W.codeIn K cd4 "sum_of" = true) (k4 : PySem.W.keepIn K (.ref f4) = true)
    (a5 : PySem.W.nsIn K mainGlobals "difference_of" = some (some (.ref f5)))
    (l5 : K.lookup f5 = some ⟨oc5, od5, .func (PySem.W.fnOf "difference_of" "difference_of" (defArgs s_difference_of) (defBody s_difference_of) (defScope s_difference_of) .none kV5 dc5 pm5 an5 cd5 ct5), sl5⟩) (c5 : PySem.W.codeIn K cd5 "difference_of" = true) (k5 : PySem.W.keepIn K (.ref f5) = true)
    (a6 : PySem.W.nsIn K mainGlobals "product_of" = some (some (.ref f6)))
    (l6 : K.lookup f6 = some ⟨oc6, od6, .func (PySem.W.fnOf "product_of" "product_of" (defArgs s_product_of) (defBody s_product_of) (defScope s_product_of) .none kV6 dc6 pm6 an6 cd6 ct6), sl6⟩) (c6 : PySem.W.codeIn K cd6 "product_of" = true) (k6 : PySem.W.keepIn K (.ref f6) = true)
    (a7 : PySem.W.nsIn K mainGlobals "quotient_of" = some (some (.ref f7)))
    (l7 : K.lookup f7 = some ⟨oc7, od7, .func (PySem.W.fnOf "quotient_of" "quotient_of" (defArgs s_quotient_of) (defBody s_quotient_of) (defScope s_quotient_of) .none kV7 dc7 pm7 an7 cd7 ct7), sl7⟩) (c7 : PySem.W.codeIn K cd7 "quotient_of" = true) (k7 : PySem.W.keepIn K (.ref f7) = true)
    (a8 : PySem.W.nsIn K mainGlobals "is_less" = some (some (.ref f8)))
    (l8 : K.lookup f8 = some ⟨oc8, od8, .func (PySem.W.fnOf "is_less" "is_less" (defArgs s_is_less) (defBody s_is_less) (defScope s_is_less) .none kV8 dc8 pm8 an8 cd8 ct8), sl8⟩) (c8 : PySem.W.codeIn K cd8 "is_less" = true) (k8 : PySem.W.keepIn K (.ref f8) = true)
    (a9 : PySem.W.nsIn K mainGlobals "place_at" = some (some (.ref f9)))
    (l9 : K.lookup f9 = some ⟨oc9, od9, .func (PySem.W.fnOf "place_at" "place_at" (defArgs s_place_at) (defBody s_place_at) (defScope s_place_at) .none kV9 dc9 pm9 an9 cd9 ct9), sl9⟩) (c9 : PySem.W.codeIn K cd9 "place_at" = true) (k9 : PySem.W.keepIn K (.ref f9) = true)
    (a10 : PySem.W.nsIn K mainGlobals "meeting" = some (some (.ref f10)))
    (l10 : K.lookup f10 = some ⟨oc10, od10, .func (PySem.W.fnOf "meeting" "meeting" (defArgs s_meeting) (defBody s_meeting) (defScope s_meeting) .none kV10 dc10 pm10 an10 cd10 ct10), sl10⟩) (c10 : PySem.W.codeIn K cd10 "meeting" = true) (k10 : PySem.W.keepIn K (.ref f10) = true)
    (a11 : PySem.W.nsIn K mainGlobals "is_ahead" = some (some (.ref f11)))
    (l11 : K.lookup f11 = some ⟨oc11, od11, .func (PySem.W.fnOf "is_ahead" "is_ahead" (defArgs s_is_ahead) (defBody s_is_ahead) (defScope s_is_ahead) .none kV11 dc11 pm11 an11 cd11 ct11), sl11⟩) (c11 : PySem.W.codeIn K cd11 "is_ahead" = true) (k11 : PySem.W.keepIn K (.ref f11) = true)
    (a12 : PySem.W.nsIn K mainGlobals "next_change" = some (some (.ref f12)))
    (l12 : K.lookup f12 = some ⟨oc12, od12, .func (PySem.W.fnOf "next_change" "next_change" (defArgs s_next_change) (defBody s_next_change) (defScope s_next_change) .none kV12 dc12 pm12 an12 cd12 ct12), sl12⟩) (c12 : PySem.W.codeIn K cd12 "next_change" = true) (k12 : PySem.W.keepIn K (.ref f12) = true)
    (a13 : PySem.W.nsIn K mainGlobals "till_of" = some (some (.ref f13)))
    (l13 : K.lookup f13 = some ⟨oc13, od13, .func (PySem.W.fnOf "till_of" "till_of" (defArgs s_till_of) (defBody s_till_of) (defScope s_till_of) .none kV13 dc13 pm13 an13 cd13 ct13), sl13⟩) (c13 : PySem.W.codeIn K cd13 "till_of" = true) (k13 : PySem.W.keepIn K (.ref f13) = true)
    (a14 : PySem.W.nsIn K mainGlobals "passing_time" = some (some (.ref f14)))
    (l14 : K.lookup f14 = some ⟨oc14, od14, .func (PySem.W.fnOf "passing_time" "passing_time" (defArgs s_passing_time) (defBody s_passing_time) (defScope s_passing_time) .none kV14 dc14 pm14 an14 cd14 ct14), sl14⟩) (c14 : PySem.W.codeIn K cd14 "passing_time" = true) (k14 : PySem.W.keepIn K (.ref f14) = true)
    (a15 : PySem.W.nsIn K mainGlobals "order_at" = some (some (.ref f15)))
    (l15 : K.lookup f15 = some ⟨oc15, od15, .func (PySem.W.fnOf "order_at" "order_at" (defArgs s_order_at) (defBody s_order_at) (defScope s_order_at) .none kV15 dc15 pm15 an15 cd15 ct15), sl15⟩) (c15 : PySem.W.codeIn K cd15 "order_at" = true) (k15 : PySem.W.keepIn K (.ref f15) = true)
    (a16 : PySem.W.nsIn K mainGlobals "ahead_of_all" = some (some (.ref f16)))
    (l16 : K.lookup f16 = some ⟨oc16, od16, .func (PySem.W.fnOf "ahead_of_all" "ahead_of_all" (defArgs s_ahead_of_all) (defBody s_ahead_of_all) (defScope s_ahead_of_all) .none kV16 dc16 pm16 an16 cd16 ct16), sl16⟩) (c16 : PySem.W.codeIn K cd16 "ahead_of_all" = true) (k16 : PySem.W.keepIn K (.ref f16) = true)
    (a17 : PySem.W.nsIn K mainGlobals "first_leader" = some (some (.ref f17)))
    (l17 : K.lookup f17 = some ⟨oc17, od17, .func (PySem.W.fnOf "first_leader" "first_leader" (defArgs s_first_leader) (defBody s_first_leader) (defScope s_first_leader) .none kV17 dc17 pm17 an17 cd17 ct17), sl17⟩) (c17 : PySem.W.codeIn K cd17 "first_leader" = true) (k17 : PySem.W.keepIn K (.ref f17) = true)
    (a18 : PySem.W.nsIn K mainGlobals "passed_at" = some (some (.ref f18)))
    (l18 : K.lookup f18 = some ⟨oc18, od18, .func (PySem.W.fnOf "passed_at" "passed_at" (defArgs s_passed_at) (defBody s_passed_at) (defScope s_passed_at) .none kV18 dc18 pm18 an18 cd18 ct18), sl18⟩) (c18 : PySem.W.codeIn K cd18 "passed_at" = true) (k18 : PySem.W.keepIn K (.ref f18) = true)
    (a19 : PySem.W.nsIn K mainGlobals "earliest" = some (some (.ref f19)))
    (l19 : K.lookup f19 = some ⟨oc19, od19, .func (PySem.W.fnOf "earliest" "earliest" (defArgs s_earliest) (defBody s_earliest) (defScope s_earliest) .none kV19 dc19 pm19 an19 cd19 ct19), sl19⟩) (c19 : PySem.W.codeIn K cd19 "earliest" = true) (k19 : PySem.W.keepIn K (.ref f19) = true)
    (a20 : PySem.W.nsIn K mainGlobals "leaders" = some (some (.ref f20)))
    (l20 : K.lookup f20 = some ⟨oc20, od20, .func (PySem.W.fnOf "leaders" "leaders" (defArgs s_leaders) (defBody s_leaders) (defScope s_leaders) .none kV20 dc20 pm20 an20 cd20 ct20), sl20⟩) (c20 : PySem.W.codeIn K cd20 "leaders" = true) (k20 : PySem.W.keepIn K (.ref f20) = true)
    (a21 : PySem.W.nsIn K mainGlobals "is_row" = some (some (.ref f21)))
    (l21 : K.lookup f21 = some ⟨oc21, od21, .func (PySem.W.fnOf "is_row" "is_row" (defArgs s_is_row) (defBody s_is_row) (defScope s_is_row) .none kV21 dc21 pm21 an21 cd21 ct21), sl21⟩) (c21 : PySem.W.codeIn K cd21 "is_row" = true) (k21 : PySem.W.keepIn K (.ref f21) = true)
    (a22 : PySem.W.nsIn K mainGlobals "front" = some (some (.ref f22)))
    (l22 : K.lookup f22 = some ⟨oc22, od22, .func (PySem.W.fnOf "front" "front" (defArgs s_front) (defBody s_front) (defScope s_front) .none kV22 dc22 pm22 an22 cd22 ct22), sl22⟩) (c22 : PySem.W.codeIn K cd22 "front" = true) (k22 : PySem.W.keepIn K (.ref f22) = true)
    (a23 : PySem.W.nsIn K mainGlobals "cover" = some (some (.ref f23)))
    (l23 : K.lookup f23 = some ⟨oc23, od23, .func (PySem.W.fnOf "cover" "cover" (defArgs s_cover) (defBody s_cover) (defScope s_cover) .none kV23 dc23 pm23 an23 cd23 ct23), sl23⟩) (c23 : PySem.W.codeIn K cd23 "cover" = true) (k23 : PySem.W.keepIn K (.ref f23) = true)
    (a24 : PySem.W.nsIn K mainGlobals "is_always_ahead" = some (some (.ref f24)))
    (l24 : K.lookup f24 = some ⟨oc24, od24, .func (PySem.W.fnOf "is_always_ahead" "is_always_ahead" (defArgs s_is_always_ahead) (defBody s_is_always_ahead) (defScope s_is_always_ahead) .none kV24 dc24 pm24 an24 cd24 ct24), sl24⟩) (c24 : PySem.W.codeIn K cd24 "is_always_ahead" = true) (k24 : PySem.W.keepIn K (.ref f24) = true)
    (a25 : PySem.W.nsIn K mainGlobals "are_joint" = some (some (.ref f25)))
    (l25 : K.lookup f25 = some ⟨oc25, od25, .func (PySem.W.fnOf "are_joint" "are_joint" (defArgs s_are_joint) (defBody s_are_joint) (defScope s_are_joint) .none kV25 dc25 pm25 an25 cd25 ct25), sl25⟩) (c25 : PySem.W.codeIn K cd25 "are_joint" = true) (k25 : PySem.W.keepIn K (.ref f25) = true)
    (a26 : PySem.W.nsIn K mainGlobals "is_cover" = some (some (.ref f26)))
    (l26 : K.lookup f26 = some ⟨oc26, od26, .func (PySem.W.fnOf "is_cover" "is_cover" (defArgs s_is_cover) (defBody s_is_cover) (defScope s_is_cover) .none kV26 dc26 pm26 an26 cd26 ct26), sl26⟩) (c26 : PySem.W.codeIn K cd26 "is_cover" = true) (k26 : PySem.W.keepIn K (.ref f26) = true)
    (a27 : PySem.W.nsIn K mainGlobals "nearest" = some (some (.ref f27)))
    (l27 : K.lookup f27 = some ⟨oc27, od27, .func (PySem.W.fnOf "nearest" "nearest" (defArgs s_nearest) (defBody s_nearest) (defScope s_nearest) .none kV27 dc27 pm27 an27 cd27 ct27), sl27⟩) (c27 : PySem.W.codeIn K cd27 "nearest" = true) (k27 : PySem.W.keepIn K (.ref f27) = true)
    (a28 : PySem.W.nsIn K mainGlobals "papers_at" = some (some (.ref f28)))
    (l28 : K.lookup f28 = some ⟨oc28, od28, .func (PySem.W.fnOf "papers_at" "papers_at" (defArgs s_papers_at) (defBody s_papers_at) (defScope s_papers_at) .none kV28 dc28 pm28 an28 cd28 ct28), sl28⟩) (c28 : PySem.W.codeIn K cd28 "papers_at" = true) (k28 : PySem.W.keepIn K (.ref f28) = true)
    (a29 : PySem.W.nsIn K mainGlobals "put_in" = some (some (.ref f29)))
    (l29 : K.lookup f29 = some ⟨oc29, od29, .func (PySem.W.fnOf "put_in" "put_in" (defArgs s_put_in) (defBody s_put_in) (defScope s_put_in) .none kV29 dc29 pm29 an29 cd29 ct29), sl29⟩) (c29 : PySem.W.codeIn K cd29 "put_in" = true) (k29 : PySem.W.keepIn K (.ref f29) = true)
    (a30 : PySem.W.nsIn K mainGlobals "changes" = some (some (.ref f30)))
    (l30 : K.lookup f30 = some ⟨oc30, od30, .func (PySem.W.fnOf "changes" "changes" (defArgs s_changes) (defBody s_changes) (defScope s_changes) .none kV30 dc30 pm30 an30 cd30 ct30), sl30⟩) (c30 : PySem.W.codeIn K cd30 "changes" = true) (k30 : PySem.W.keepIn K (.ref f30) = true)
    (a31 : PySem.W.nsIn K mainGlobals "change_times" = some (some (.ref f31)))
    (l31 : K.lookup f31 = some ⟨oc31, od31, .func (PySem.W.fnOf "change_times" "change_times" (defArgs s_change_times) (defBody s_change_times) (defScope s_change_times) .none kV31 dc31 pm31 an31 cd31 ct31), sl31⟩) (c31 : PySem.W.codeIn K cd31 "change_times" = true) (k31 : PySem.W.keepIn K (.ref f31) = true)
    (a32 : PySem.W.nsIn K mainGlobals "rank_row" = some (some (.ref f32)))
    (l32 : K.lookup f32 = some ⟨oc32, od32, .func (PySem.W.fnOf "rank_row" "rank_row" (defArgs s_rank_row) (defBody s_rank_row) (defScope s_rank_row) .none kV32 dc32 pm32 an32 cd32 ct32), sl32⟩) (c32 : PySem.W.codeIn K cd32 "rank_row" = true) (k32 : PySem.W.keepIn K (.ref f32) = true)
    (a33 : PySem.W.nsIn K mainGlobals "comes_ahead" = some (some (.ref f33)))
    (l33 : K.lookup f33 = some ⟨oc33, od33, .func (PySem.W.fnOf "comes_ahead" "comes_ahead" (defArgs s_comes_ahead) (defBody s_comes_ahead) (defScope s_comes_ahead) .none kV33 dc33 pm33 an33 cd33 ct33), sl33⟩) (c33 : PySem.W.codeIn K cd33 "comes_ahead" = true) (k33 : PySem.W.keepIn K (.ref f33) = true)
    (a34 : PySem.W.nsIn K mainGlobals "right_way" = some (some (.ref f34)))
    (l34 : K.lookup f34 = some ⟨oc34, od34, .func (PySem.W.fnOf "right_way" "right_way" (defArgs s_right_way) (defBody s_right_way) (defScope s_right_way) .none kV34 dc34 pm34 an34 cd34 ct34), sl34⟩) (c34 : PySem.W.codeIn K cd34 "right_way" = true) (k34 : PySem.W.keepIn K (.ref f34) = true)
    (a35 : PySem.W.nsIn K mainGlobals "laid" = some (some (.ref f35)))
    (l35 : K.lookup f35 = some ⟨oc35, od35, .func (PySem.W.fnOf "laid" "laid" (defArgs s_laid) (defBody s_laid) (defScope s_laid) .none kV35 dc35 pm35 an35 cd35 ct35), sl35⟩) (c35 : PySem.W.codeIn K cd35 "laid" = true) (k35 : PySem.W.keepIn K (.ref f35) = true)
    (a36 : PySem.W.nsIn K mainGlobals "merged" = some (some (.ref f36)))
    (l36 : K.lookup f36 = some ⟨oc36, od36, .func (PySem.W.fnOf "merged" "merged" (defArgs s_merged) (defBody s_merged) (defScope s_merged) .none kV36 dc36 pm36 an36 cd36 ct36), sl36⟩) (c36 : PySem.W.codeIn K cd36 "merged" = true) (k36 : PySem.W.keepIn K (.ref f36) = true)
    (a37 : PySem.W.nsIn K mainGlobals "without" = some (some (.ref f37)))
    (l37 : K.lookup f37 = some ⟨oc37, od37, .func (PySem.W.fnOf "without" "without" (defArgs s_without) (defBody s_without) (defScope s_without) .none kV37 dc37 pm37 an37 cd37 ct37), sl37⟩) (c37 : PySem.W.codeIn K cd37 "without" = true) (k37 : PySem.W.keepIn K (.ref f37) = true)
    (a38 : PySem.W.findIn K (.ref CW) "__init__" = some (some (.ref f38))) (i38 : PySem.W.isFn K (.ref f38) = true)
    (l38 : K.lookup f38 = some ⟨oc38, od38, .func (PySem.W.fnOf "__init__" "Waiting.__init__" (defArgs s_Waiting_init) (defBody s_Waiting_init) (defScope s_Waiting_init) .none kV38 dc38 pm38 an38 cd38 ct38), sl38⟩) (c38 : PySem.W.codeIn K cd38 "Waiting.__init__" = true) (k38 : PySem.W.keepIn K (.ref f38) = true)
    (a39 : PySem.W.findIn K (.ref CW) "put" = some (some (.ref f39))) (i39 : PySem.W.isFn K (.ref f39) = true)
    (l39 : K.lookup f39 = some ⟨oc39, od39, .func (PySem.W.fnOf "put" "Waiting.put" (defArgs s_Waiting_put) (defBody s_Waiting_put) (defScope s_Waiting_put) .none kV39 dc39 pm39 an39 cd39 ct39), sl39⟩) (c39 : PySem.W.codeIn K cd39 "Waiting.put" = true) (k39 : PySem.W.keepIn K (.ref f39) = true)
    (a40 : PySem.W.findIn K (.ref CW) "take" = some (some (.ref f40))) (i40 : PySem.W.isFn K (.ref f40) = true)
    (l40 : K.lookup f40 = some ⟨oc40, od40, .func (PySem.W.fnOf "take" "Waiting.take" (defArgs s_Waiting_take) (defBody s_Waiting_take) (defScope s_Waiting_take) .none kV40 dc40 pm40 an40 cd40 ct40), sl40⟩) (c40 : PySem.W.codeIn K cd40 "Waiting.take" = true) (k40 : PySem.W.keepIn K (.ref f40) = true)
    (a41 : PySem.W.findIn K (.ref CW) "first" = some (some (.ref f41))) (i41 : PySem.W.isFn K (.ref f41) = true)
    (l41 : K.lookup f41 = some ⟨oc41, od41, .func (PySem.W.fnOf "first" "Waiting.first" (defArgs s_Waiting_first) (defBody s_Waiting_first) (defScope s_Waiting_first) .none kV41 dc41 pm41 an41 cd41 ct41), sl41⟩) (c41 : PySem.W.codeIn K cd41 "Waiting.first" = true) (k41 : PySem.W.keepIn K (.ref f41) = true)
    (a42 : PySem.W.findIn K (.ref CK) "paper_at" = some (some (.ref f42))) (i42 : PySem.W.isFn K (.ref f42) = true)
    (l42 : K.lookup f42 = some ⟨oc42, od42, .func (PySem.W.fnOf "paper_at" "Walk.paper_at" (defArgs s_Walk_paper_at) (defBody s_Walk_paper_at) (defScope s_Walk_paper_at) .none kV42 dc42 pm42 an42 cd42 ct42), sl42⟩) (c42 : PySem.W.codeIn K cd42 "Walk.paper_at" = true) (k42 : PySem.W.keepIn K (.ref f42) = true)
    (a43 : PySem.W.findIn K (.ref CK) "papers" = some (some (.ref f43))) (i43 : PySem.W.isFn K (.ref f43) = true)
    (l43 : K.lookup f43 = some ⟨oc43, od43, .func (PySem.W.fnOf "papers" "Walk.papers" (defArgs s_Walk_papers) (defBody s_Walk_papers) (defScope s_Walk_papers) .none kV43 dc43 pm43 an43 cd43 ct43), sl43⟩) (c43 : PySem.W.codeIn K cd43 "Walk.papers" = true) (k43 : PySem.W.keepIn K (.ref f43) = true)
    (a44 : PySem.W.findIn K (.ref CK) "keep" = some (some (.ref f44))) (i44 : PySem.W.isFn K (.ref f44) = true)
    (l44 : K.lookup f44 = some ⟨oc44, od44, .func (PySem.W.fnOf "keep" "Walk.keep" (defArgs s_Walk_keep) (defBody s_Walk_keep) (defScope s_Walk_keep) .none kV44 dc44 pm44 an44 cd44 ct44), sl44⟩) (c44 : PySem.W.codeIn K cd44 "Walk.keep" = true) (k44 : PySem.W.keepIn K (.ref f44) = true)
    (a45 : PySem.W.findIn K (.ref CK) "drop" = some (some (.ref f45))) (i45 : PySem.W.isFn K (.ref f45) = true)
    (l45 : K.lookup f45 = some ⟨oc45, od45, .func (PySem.W.fnOf "drop" "Walk.drop" (defArgs s_Walk_drop) (defBody s_Walk_drop) (defScope s_Walk_drop) .none kV45 dc45 pm45 an45 cd45 ct45), sl45⟩) (c45 : PySem.W.codeIn K cd45 "Walk.drop" = true) (k45 : PySem.W.keepIn K (.ref f45) = true)
    (a46 : PySem.W.findIn K (.ref CK) "step" = some (some (.ref f46))) (i46 : PySem.W.isFn K (.ref f46) = true)
    (l46 : K.lookup f46 = some ⟨oc46, od46, .func (PySem.W.fnOf "step" "Walk.step" (defArgs s_Walk_step) (defBody s_Walk_step) (defScope s_Walk_step) .none kV46 dc46 pm46 an46 cd46 ct46), sl46⟩) (c46 : PySem.W.codeIn K cd46 "Walk.step" = true) (k46 : PySem.W.keepIn K (.ref f46) = true)
    (a47 : PySem.W.findIn K (.ref CK) "go" = some (some (.ref f47))) (i47 : PySem.W.isFn K (.ref f47) = true)
    (l47 : K.lookup f47 = some ⟨oc47, od47, .func (PySem.W.fnOf "go" "Walk.go" (defArgs s_Walk_go) (defBody s_Walk_go) (defScope s_Walk_go) .none kV47 dc47 pm47 an47 cd47 ct47), sl47⟩) (c47 : PySem.W.codeIn K cd47 "Walk.go" = true) (k47 : PySem.W.keepIn K (.ref f47) = true)
    (a48 : PySem.W.findIn K (.ref CK) "__init__" = some (some (.ref f48))) (i48 : PySem.W.isFn K (.ref f48) = true)
    (l48 : K.lookup f48 = some ⟨oc48, od48, .func (PySem.W.fnOf "__init__" "Walk.__init__" (defArgs s_Walk_init) (defBody s_Walk_init) (defScope s_Walk_init) .none kV48 dc48 pm48 an48 cd48 ct48), sl48⟩) (c48 : PySem.W.codeIn K cd48 "Walk.__init__" = true) (k48 : PySem.W.keepIn K (.ref f48) = true)
    (a49 : PySem.W.nsIn K mainGlobals "_law_lowest" = some (some (.ref f49)))
    (l49 : K.lookup f49 = some ⟨oc49, od49, .func (PySem.W.fnOf "_law_lowest" "_law_lowest" (defArgs s__law_lowest) (defBody s__law_lowest) (defScope s__law_lowest) .none kV49 dc49 pm49 an49 cd49 ct49), sl49⟩) (c49 : PySem.W.codeIn K cd49 "_law_lowest" = true) (k49 : PySem.W.keepIn K (.ref f49) = true)
    (a50 : PySem.W.nsIn K mainGlobals "_law_plus" = some (some (.ref f50)))
    (l50 : K.lookup f50 = some ⟨oc50, od50, .func (PySem.W.fnOf "_law_plus" "_law_plus" (defArgs s__law_plus) (defBody s__law_plus) (defScope s__law_plus) .none kV50 dc50 pm50 an50 cd50 ct50), sl50⟩) (c50 : PySem.W.codeIn K cd50 "_law_plus" = true) (k50 : PySem.W.keepIn K (.ref f50) = true)
    (a51 : PySem.W.nsIn K mainGlobals "_law_times" = some (some (.ref f51)))
    (l51 : K.lookup f51 = some ⟨oc51, od51, .func (PySem.W.fnOf "_law_times" "_law_times" (defArgs s__law_times) (defBody s__law_times) (defScope s__law_times) .none kV51 dc51 pm51 an51 cd51 ct51), sl51⟩) (c51 : PySem.W.codeIn K cd51 "_law_times" = true) (k51 : PySem.W.keepIn K (.ref f51) = true)
    (a52 : PySem.W.nsIn K mainGlobals "_law_sent" = some (some (.ref f52)))
    (l52 : K.lookup f52 = some ⟨oc52, od52, .func (PySem.W.fnOf "_law_sent" "_law_sent" (defArgs s__law_sent) (defBody s__law_sent) (defScope s__law_sent) .none kV52 dc52 pm52 an52 cd52 ct52), sl52⟩) (c52 : PySem.W.codeIn K cd52 "_law_sent" = true) (k52 : PySem.W.keepIn K (.ref f52) = true)
    (a53 : PySem.W.nsIn K mainGlobals "_law_later" = some (some (.ref f53)))
    (l53 : K.lookup f53 = some ⟨oc53, od53, .func (PySem.W.fnOf "_law_later" "_law_later" (defArgs s__law_later) (defBody s__law_later) (defScope s__law_later) .none kV53 dc53 pm53 an53 cd53 ct53), sl53⟩) (c53 : PySem.W.codeIn K cd53 "_law_later" = true) (k53 : PySem.W.keepIn K (.ref f53) = true)
    (a54 : PySem.W.nsIn K mainGlobals "_law_rows_alike" = some (some (.ref f54)))
    (l54 : K.lookup f54 = some ⟨oc54, od54, .func (PySem.W.fnOf "_law_rows_alike" "_law_rows_alike" (defArgs s__law_rows_alike) (defBody s__law_rows_alike) (defScope s__law_rows_alike) .none kV54 dc54 pm54 an54 cd54 ct54), sl54⟩) (c54 : PySem.W.codeIn K cd54 "_law_rows_alike" = true) (k54 : PySem.W.keepIn K (.ref f54) = true)
    (a55 : PySem.W.nsIn K mainGlobals "_law_covers_alike" = some (some (.ref f55)))
    (l55 : K.lookup f55 = some ⟨oc55, od55, .func (PySem.W.fnOf "_law_covers_alike" "_law_covers_alike" (defArgs s__law_covers_alike) (defBody s__law_covers_alike) (defScope s__law_covers_alike) .none kV55 dc55 pm55 an55 cd55 ct55), sl55⟩) (c55 : PySem.W.codeIn K cd55 "_law_covers_alike" = true) (k55 : PySem.W.keepIn K (.ref f55) = true)
    (a56 : PySem.W.nsIn K mainGlobals "_law_alike_at" = some (some (.ref f56)))
    (l56 : K.lookup f56 = some ⟨oc56, od56, .func (PySem.W.fnOf "_law_alike_at" "_law_alike_at" (defArgs s__law_alike_at) (defBody s__law_alike_at) (defScope s__law_alike_at) .none kV56 dc56 pm56 an56 cd56 ct56), sl56⟩) (c56 : PySem.W.codeIn K cd56 "_law_alike_at" = true) (k56 : PySem.W.keepIn K (.ref f56) = true)
    (a57 : PySem.W.nsIn K mainGlobals "_law_going_alike" = some (some (.ref f57)))
    (l57 : K.lookup f57 = some ⟨oc57, od57, .func (PySem.W.fnOf "_law_going_alike" "_law_going_alike" (defArgs s__law_going_alike) (defBody s__law_going_alike) (defScope s__law_going_alike) .none kV57 dc57 pm57 an57 cd57 ct57), sl57⟩) (c57 : PySem.W.codeIn K cd57 "_law_going_alike" = true) (k57 : PySem.W.keepIn K (.ref f57) = true)
    (a58 : PySem.W.nsIn K mainGlobals "_law_pen" = some (some (.ref f58)))
    (l58 : K.lookup f58 = some ⟨oc58, od58, .func (PySem.W.fnOf "_law_pen" "_law_pen" (defArgs s__law_pen) (defBody s__law_pen) (defScope s__law_pen) .none kV58 dc58 pm58 an58 cd58 ct58), sl58⟩) (c58 : PySem.W.codeIn K cd58 "_law_pen" = true) (k58 : PySem.W.keepIn K (.ref f58) = true)
    (a59 : PySem.W.nsIn K mainGlobals "_law_take" = some (some (.ref f59)))
    (l59 : K.lookup f59 = some ⟨oc59, od59, .func (PySem.W.fnOf "_law_take" "_law_take" (defArgs s__law_take) (defBody s__law_take) (defScope s__law_take) .none kV59 dc59 pm59 an59 cd59 ct59), sl59⟩) (c59 : PySem.W.codeIn K cd59 "_law_take" = true) (k59 : PySem.W.keepIn K (.ref f59) = true)
    (a60 : PySem.W.nsIn K mainGlobals "_law_number" = some (some (.ref f60)))
    (l60 : K.lookup f60 = some ⟨oc60, od60, .func (PySem.W.fnOf "_law_number" "_law_number" (defArgs s__law_number) (defBody s__law_number) (defScope s__law_number) .none kV60 dc60 pm60 an60 cd60 ct60), sl60⟩) (c60 : PySem.W.codeIn K cd60 "_law_number" = true) (k60 : PySem.W.keepIn K (.ref f60) = true)
    (a61 : PySem.W.nsIn K mainGlobals "_law_lines" = some (some (.ref f61)))
    (l61 : K.lookup f61 = some ⟨oc61, od61, .func (PySem.W.fnOf "_law_lines" "_law_lines" (defArgs s__law_lines) (defBody s__law_lines) (defScope s__law_lines) .none kV61 dc61 pm61 an61 cd61 ct61), sl61⟩) (c61 : PySem.W.codeIn K cd61 "_law_lines" = true) (k61 : PySem.W.keepIn K (.ref f61) = true)
    (a62 : PySem.W.nsIn K mainGlobals "_law_when" = some (some (.ref f62)))
    (l62 : K.lookup f62 = some ⟨oc62, od62, .func (PySem.W.fnOf "_law_when" "_law_when" (defArgs s__law_when) (defBody s__law_when) (defScope s__law_when) .none kV62 dc62 pm62 an62 cd62 ct62), sl62⟩) (c62 : PySem.W.codeIn K cd62 "_law_when" = true) (k62 : PySem.W.keepIn K (.ref f62) = true)
    (a63 : PySem.W.nsIn K mainGlobals "law" = some (some (.ref f63)))
    (l63 : K.lookup f63 = some ⟨oc63, od63, .func (PySem.W.fnOf "law" "law" (defArgs s_law) (defBody s_law) (defScope s_law) .none kV63 dc63 pm63 an63 cd63 ct63), sl63⟩) (c63 : PySem.W.codeIn K cd63 "law" = true) (k63 : PySem.W.keepIn K (.ref f63) = true)
    (pgCW : PySem.W.plainGet K CW Str.empty = true) (hdCW : PySem.W.hasDictIn K CW = true) (poCW : PySem.W.plainOver K CW = true) (saCW : PySem.W.findIn K (.ref CW) "__setattr__" = some (some (.builtin "object.__setattr__"))) (mkCW : PySem.W.makesIn K CW = true) (kcCW : PySem.W.keepIn K (.ref CW) = true)
    (pgCK : PySem.W.plainGet K CK Str.empty = true) (hdCK : PySem.W.hasDictIn K CK = true) (poCK : PySem.W.plainOver K CK = true) (saCK : PySem.W.findIn K (.ref CK) "__setattr__" = some (some (.builtin "object.__setattr__"))) (mkCK : PySem.W.makesIn K CK = true) (kcCK : PySem.W.keepIn K (.ref CK) = true)
    (nL : PySem.W.findIn K (.ref CK) "lines" = some none)
    (nN : PySem.W.findIn K (.ref CK) "now" = some none)
    (nR : PySem.W.findIn K (.ref CK) "row" = some none)
    (nQ : PySem.W.findIn K (.ref CK) "waits" = some none)
    (nT : PySem.W.findIn K (.ref CW) "tree" = some none)
    (nK : PySem.W.findIn K (.ref CW) "kept" = some none)
    (z_len : PySem.W.nsIn K mainGlobals "len" = some none)
    (z_abs : PySem.W.nsIn K mainGlobals "abs" = some none)
    (z_min : PySem.W.nsIn K mainGlobals "min" = some none)
    (z_isinstance : PySem.W.nsIn K mainGlobals "isinstance" = some none)
    (z_any : PySem.W.nsIn K mainGlobals "any" = some none)
    (z_range : PySem.W.nsIn K mainGlobals "range" = some none)
    (z_zip : PySem.W.nsIn K mainGlobals "zip" = some none)
    (z_list : PySem.W.nsIn K mainGlobals "list" = some none)
    (z_int : PySem.W.nsIn K mainGlobals "int" = some none)
    (z_bool : PySem.W.nsIn K mainGlobals "bool" = some none)
    (aO : PySem.W.nsIn K mainGlobals "ONE" = some (some (.ref gO))) (lO : K.lookup gO = some ⟨.type "tuple", odO, .seq #[.int 1 tO, .int 1 uO] qO, slO⟩)
    (aN : PySem.W.nsIn K mainGlobals "NOUGHT" = some (some (.ref gN))) (lN : K.lookup gN = some ⟨.type "tuple", odN, .seq #[.int 0 tN, .int 1 uN] qN, slN⟩) :
    ∃ fd : FuncData, (∀ (s : Shared) (v : Value), BindsTo s fd ⟨[v], []⟩ [("_law_script", v)]) ∧ ∀ base : Heap, K.In base → base.Ns mainGlobals mg → FnOk l.prog w K mg base CX0 34 fa fd ["_law_script"] (spLaw K) := by
  have e := hfa.symm.trans (PySem.W.mg_of X G a63)
  cases e
  have T : TxtK K mg CK CW := { z_len := PySem.W.mg_none_of X G z_len, z_abs := PySem.W.mg_none_of X G z_abs, z_min := PySem.W.mg_none_of X G z_min, z_isinstance := PySem.W.mg_none_of X G z_isinstance, z_any := PySem.W.mg_none_of X G z_any, z_range := PySem.W.mg_none_of X G z_range, z_zip := PySem.W.mg_none_of X G z_zip, z_list := PySem.W.mg_none_of X G z_list, z_int := PySem.W.mg_none_of X G z_int, z_bool := PySem.W.mg_none_of X G z_bool, cl_Walk := ⟨pgCK, hdCK, poCK, saCK⟩, cl_Waiting := ⟨pgCW, hdCW, poCW, saCW⟩, nL := nL, nN := nN, nR := nR, nQ := nQ, nT := nT, nK := nK }
  have gO : GlN K mg "ONE" 1 := gl_mk X G aO lO rfl rfl
  have gN : GlN K mg "NOUGHT" 0 := gl_mk X G aN lN rfl rfl
  have F1 := fun_mk (st := s_is_whole) l1 c1 k1
  have D_is_whole : Df K mg "is_whole" s_is_whole ["thing"] := ⟨f1, _, F1, PySem.W.mg_of X G a1, F1.binds (ps := ["thing"]) fun _ _ _ _ _ _ us hl => match us, hl with | [_], _ => rfl⟩
  have F2 := fun_mk (st := s_common) l2 c2 k2
  have D_common : Df K mg "common" s_common ["one", "other"] := ⟨f2, _, F2, PySem.W.mg_of X G a2, F2.binds (ps := ["one", "other"]) fun _ _ _ _ _ _ us hl => match us, hl with | [_, _], _ => rfl⟩
  have F3 := fun_mk (st := s_number_of) l3 c3 k3
  have D_number_of : Df K mg "number_of" s_number_of ["top", "bottom"] := ⟨f3, _, F3, PySem.W.mg_of X G a3, F3.binds (ps := ["top", "bottom"]) fun _ _ _ _ _ _ us hl => match us, hl with | [_, _], _ => rfl⟩
  have F4 := fun_mk (st := s_sum_of) l4 c4 k4
  have D_sum_of : Df K mg "sum_of" s_sum_of ["a", "b"] := ⟨f4, _, F4, PySem.W.mg_of X G a4, F4.binds (ps := ["a", "b"]) fun _ _ _ _ _ _ us hl => match us, hl with | [_, _], _ => rfl⟩
  have F5 := fun_mk (st := s_difference_of) l5 c5 k5
  have D_difference_of : Df K mg "difference_of" s_difference_of ["a", "b"] := ⟨f5, _, F5, PySem.W.mg_of X G a5, F5.binds (ps := ["a", "b"]) fun _ _ _ _ _ _ us hl => match us, hl with | [_, _], _ => rfl⟩
  have F6 := fun_mk (st := s_product_of) l6 c6 k6
  have D_product_of : Df K mg "product_of" s_product_of ["a", "b"] := ⟨f6, _, F6, PySem.W.mg_of X G a6, F6.binds (ps := ["a", "b"]) fun _ _ _ _ _ _ us hl => match us, hl with | [_, _], _ => rfl⟩
  have F7 := fun_mk (st := s_quotient_of) l7 c7 k7
  have D_quotient_of : Df K mg "quotient_of" s_quotient_of ["a", "b"] := ⟨f7, _, F7, PySem.W.mg_of X G a7, F7.binds (ps := ["a", "b"]) fun _ _ _ _ _ _ us hl => match us, hl with | [_, _], _ => rfl⟩
  have F8 := fun_mk (st := s_is_less) l8 c8 k8
  have D_is_less : Df K mg "is_less" s_is_less ["a", "b"] := ⟨f8, _, F8, PySem.W.mg_of X G a8, F8.binds (ps := ["a", "b"]) fun _ _ _ _ _ _ us hl => match us, hl with | [_, _], _ => rfl⟩
  have F9 := fun_mk (st := s_place_at) l9 c9 k9
  have D_place_at : Df K mg "place_at" s_place_at ["line", "time"] := ⟨f9, _, F9, PySem.W.mg_of X G a9, F9.binds (ps := ["line", "time"]) fun _ _ _ _ _ _ us hl => match us, hl with | [_, _], _ => rfl⟩
  have F10 := fun_mk (st := s_meeting) l10 c10 k10
  have D_meeting : Df K mg "meeting" s_meeting ["one", "other"] := ⟨f10, _, F10, PySem.W.mg_of X G a10, F10.binds (ps := ["one", "other"]) fun _ _ _ _ _ _ us hl => match us, hl with | [_, _], _ => rfl⟩
  have F11 := fun_mk (st := s_is_ahead) l11 c11 k11
  have D_is_ahead : Df K mg "is_ahead" s_is_ahead ["lines", "one", "other", "time"] := ⟨f11, _, F11, PySem.W.mg_of X G a11, F11.binds (ps := ["lines", "one", "other", "time"]) fun _ _ _ _ _ _ us hl => match us, hl with | [_, _, _, _], _ => rfl⟩
  have F12 := fun_mk (st := s_next_change) l12 c12 k12
  have D_next_change : Df K mg "next_change" s_next_change ["lines", "one", "other", "time"] := ⟨f12, _, F12, PySem.W.mg_of X G a12, F12.binds (ps := ["lines", "one", "other", "time"]) fun _ _ _ _ _ _ us hl => match us, hl with | [_, _, _, _], _ => rfl⟩
  have F13 := fun_mk (st := s_till_of) l13 c13 k13
  have D_till_of : Df K mg "till_of" s_till_of ["lines", "one", "other", "time"] := ⟨f13, _, F13, PySem.W.mg_of X G a13, F13.binds (ps := ["lines", "one", "other", "time"]) fun _ _ _ _ _ _ us hl => match us, hl with | [_, _, _, _], _ => rfl⟩
  have F14 := fun_mk (st := s_passing_time) l14 c14 k14
  have D_passing_time : Df K mg "passing_time" s_passing_time ["one", "other"] := ⟨f14, _, F14, PySem.W.mg_of X G a14, F14.binds (ps := ["one", "other"]) fun _ _ _ _ _ _ us hl => match us, hl with | [_, _], _ => rfl⟩
  have F15 := fun_mk (st := s_order_at) l15 c15 k15
  have D_order_at : Df K mg "order_at" s_order_at ["lines", "time"] := ⟨f15, _, F15, PySem.W.mg_of X G a15, F15.binds (ps := ["lines", "time"]) fun _ _ _ _ _ _ us hl => match us, hl with | [_, _], _ => rfl⟩
  have F16 := fun_mk (st := s_ahead_of_all) l16 c16 k16
  have D_ahead_of_all : Df K mg "ahead_of_all" s_ahead_of_all ["lines", "time"] := ⟨f16, _, F16, PySem.W.mg_of X G a16, F16.binds (ps := ["lines", "time"]) fun _ _ _ _ _ _ us hl => match us, hl with | [_, _], _ => rfl⟩
  have F17 := fun_mk (st := s_first_leader) l17 c17 k17
  have D_first_leader : Df K mg "first_leader" s_first_leader ["lines"] := ⟨f17, _, F17, PySem.W.mg_of X G a17, F17.binds (ps := ["lines"]) fun _ _ _ _ _ _ us hl => match us, hl with | [_], _ => rfl⟩
  have F18 := fun_mk (st := s_passed_at) l18 c18 k18
  have D_passed_at : Df K mg "passed_at" s_passed_at ["lines", "leader", "since"] := ⟨f18, _, F18, PySem.W.mg_of X G a18, F18.binds (ps := ["lines", "leader", "since"]) fun _ _ _ _ _ _ us hl => match us, hl with | [_, _, _], _ => rfl⟩
  have F19 := fun_mk (st := s_earliest) l19 c19 k19
  have D_earliest : Df K mg "earliest" s_earliest ["times"] := ⟨f19, _, F19, PySem.W.mg_of X G a19, F19.binds (ps := ["times"]) fun _ _ _ _ _ _ us hl => match us, hl with | [_], _ => rfl⟩
  have F20 := fun_mk (st := s_leaders) l20 c20 k20
  have D_leaders : Df K mg "leaders" s_leaders ["lines"] := ⟨f20, _, F20, PySem.W.mg_of X G a20, F20.binds (ps := ["lines"]) fun _ _ _ _ _ _ us hl => match us, hl with | [_], _ => rfl⟩
  have F21 := fun_mk (st := s_is_row) l21 c21 k21
  have D_is_row : Df K mg "is_row" s_is_row ["lines", "row"] := ⟨f21, _, F21, PySem.W.mg_of X G a21, F21.binds (ps := ["lines", "row"]) fun _ _ _ _ _ _ us hl => match us, hl with | [_, _], _ => rfl⟩
  have F22 := fun_mk (st := s_front) l22 c22 k22
  have D_front : Df K mg "front" s_front ["lines", "time"] := ⟨f22, _, F22, PySem.W.mg_of X G a22, F22.binds (ps := ["lines", "time"]) fun _ _ _ _ _ _ us hl => match us, hl with | [_, _], _ => rfl⟩
  have F23 := fun_mk (st := s_cover) l23 c23 k23
  have D_cover : Df K mg "cover" s_cover ["lines", "runner"] := ⟨f23, _, F23, PySem.W.mg_of X G a23, F23.binds (ps := ["lines", "runner"]) fun _ _ _ _ _ _ us hl => match us, hl with | [_, _], _ => rfl⟩
  have F24 := fun_mk (st := s_is_always_ahead) l24 c24 k24
  have D_is_always_ahead : Df K mg "is_always_ahead" s_is_always_ahead ["lines", "one", "runner"] := ⟨f24, _, F24, PySem.W.mg_of X G a24, F24.binds (ps := ["lines", "one", "runner"]) fun _ _ _ _ _ _ us hl => match us, hl with | [_, _, _], _ => rfl⟩
  have F25 := fun_mk (st := s_are_joint) l25 c25 k25
  have D_are_joint : Df K mg "are_joint" s_are_joint ["lines", "runner", "one", "other"] := ⟨f25, _, F25, PySem.W.mg_of X G a25, F25.binds (ps := ["lines", "runner", "one", "other"]) fun _ _ _ _ _ _ us hl => match us, hl with | [_, _, _, _], _ => rfl⟩
  have F26 := fun_mk (st := s_is_cover) l26 c26 k26
  have D_is_cover : Df K mg "is_cover" s_is_cover ["lines", "runner", "one", "other"] := ⟨f26, _, F26, PySem.W.mg_of X G a26, F26.binds (ps := ["lines", "runner", "one", "other"]) fun _ _ _ _ _ _ us hl => match us, hl with | [_, _, _, _], _ => rfl⟩
  have F27 := fun_mk (st := s_nearest) l27 c27 k27
  have D_nearest : Df K mg "nearest" s_nearest ["lines", "time"] := ⟨f27, _, F27, PySem.W.mg_of X G a27, F27.binds (ps := ["lines", "time"]) fun _ _ _ _ _ _ us hl => match us, hl with | [_, _], _ => rfl⟩
  have F28 := fun_mk (st := s_papers_at) l28 c28 k28
  have D_papers_at : Df K mg "papers_at" s_papers_at ["lines", "time"] := ⟨f28, _, F28, PySem.W.mg_of X G a28, F28.binds (ps := ["lines", "time"]) fun _ _ _ _ _ _ us hl => match us, hl with | [_, _], _ => rfl⟩
  have F29 := fun_mk (st := s_put_in) l29 c29 k29
  have D_put_in : Df K mg "put_in" s_put_in ["found", "time", "pair"] := ⟨f29, _, F29, PySem.W.mg_of X G a29, F29.binds (ps := ["found", "time", "pair"]) fun _ _ _ _ _ _ us hl => match us, hl with | [_, _, _], _ => rfl⟩
  have F30 := fun_mk (st := s_changes) l30 c30 k30
  have D_changes : Df K mg "changes" s_changes ["lines", "low", "high"] := ⟨f30, _, F30, PySem.W.mg_of X G a30, F30.binds (ps := ["lines", "low", "high"]) fun _ _ _ _ _ _ us hl => match us, hl with | [_, _, _], _ => rfl⟩
  have F31 := fun_mk (st := s_change_times) l31 c31 k31
  have D_change_times : Df K mg "change_times" s_change_times ["lines"] := ⟨f31, _, F31, PySem.W.mg_of X G a31, F31.binds (ps := ["lines"]) fun _ _ _ _ _ _ us hl => match us, hl with | [_], _ => rfl⟩
  have F32 := fun_mk (st := s_rank_row) l32 c32 k32
  have D_rank_row : Df K mg "rank_row" s_rank_row ["lines", "k"] := ⟨f32, _, F32, PySem.W.mg_of X G a32, F32.binds (ps := ["lines", "k"]) fun _ _ _ _ _ _ us hl => match us, hl with | [_, _], _ => rfl⟩
  have F33 := fun_mk (st := s_comes_ahead) l33 c33 k33
  have D_comes_ahead : Df K mg "comes_ahead" s_comes_ahead ["pair", "other"] := ⟨f33, _, F33, PySem.W.mg_of X G a33, F33.binds (ps := ["pair", "other"]) fun _ _ _ _ _ _ us hl => match us, hl with | [_, _], _ => rfl⟩
  have F34 := fun_mk (st := s_right_way) l34 c34 k34
  have D_right_way : Df K mg "right_way" s_right_way ["shape"] := ⟨f34, _, F34, PySem.W.mg_of X G a34, F34.binds (ps := ["shape"]) fun _ _ _ _ _ _ us hl => match us, hl with | [_], _ => rfl⟩
  have F35 := fun_mk (st := s_laid) l35 c35 k35
  have D_laid : Df K mg "laid" s_laid ["pair", "one", "other"] := ⟨f35, _, F35, PySem.W.mg_of X G a35, F35.binds (ps := ["pair", "one", "other"]) fun _ _ _ _ _ _ us hl => match us, hl with | [_, _, _], _ => rfl⟩
  have F36 := fun_mk (st := s_merged) l36 c36 k36
  have D_merged : Df K mg "merged" s_merged ["one", "other"] := ⟨f36, _, F36, PySem.W.mg_of X G a36, F36.binds (ps := ["one", "other"]) fun _ _ _ _ _ _ us hl => match us, hl with | [_, _], _ => rfl⟩
  have F37 := fun_mk (st := s_without) l37 c37 k37
  have D_without : Df K mg "without" s_without ["shape", "pair"] := ⟨f37, _, F37, PySem.W.mg_of X G a37, F37.binds (ps := ["shape", "pair"]) fun _ _ _ _ _ _ us hl => match us, hl with | [_, _], _ => rfl⟩
  have F38 := fun_mk (st := s_Waiting_init) l38 c38 k38
  have D_Waiting_init : Di K mg CW "Waiting" "Waiting.__init__" s_Waiting_init ["self"] := ⟨f38, _, F38, ⟨mkCW, a38, i38, kcCW⟩, PySem.W.mg_of X G aCW, F38.binds (ps := ["self"]) fun _ _ _ _ _ _ us hl => match us, hl with | [_], _ => rfl⟩
  have F39 := fun_mk (st := s_Waiting_put) l39 c39 k39
  have D_Waiting_put : Dm K CW "put" "Waiting.put" s_Waiting_put ["self", "time", "key"] := ⟨f39, _, F39, ⟨a39, i39, k39⟩, F39.binds (ps := ["self", "time", "key"]) fun _ _ _ _ _ _ us hl => match us, hl with | [_, _, _], _ => rfl⟩
  have F40 := fun_mk (st := s_Waiting_take) l40 c40 k40
  have D_Waiting_take : Dm K CW "take" "Waiting.take" s_Waiting_take ["self", "time", "key"] := ⟨f40, _, F40, ⟨a40, i40, k40⟩, F40.binds (ps := ["self", "time", "key"]) fun _ _ _ _ _ _ us hl => match us, hl with | [_, _, _], _ => rfl⟩
  have F41 := fun_mk (st := s_Waiting_first) l41 c41 k41
  have D_Waiting_first : Dm K CW "first" "Waiting.first" s_Waiting_first ["self"] := ⟨f41, _, F41, ⟨a41, i41, k41⟩, F41.binds (ps := ["self"]) fun _ _ _ _ _ _ us hl => match us, hl with | [_], _ => rfl⟩
  have F42 := fun_mk (st := s_Walk_paper_at) l42 c42 k42
  have D_Walk_paper_at : Dm K CK "paper_at" "Walk.paper_at" s_Walk_paper_at ["self", "at"] := ⟨f42, _, F42, ⟨a42, i42, k42⟩, F42.binds (ps := ["self", "at"]) fun _ _ _ _ _ _ us hl => match us, hl with | [_, _], _ => rfl⟩
  have F43 := fun_mk (st := s_Walk_papers) l43 c43 k43
  have D_Walk_papers : Dm K CK "papers" "Walk.papers" s_Walk_papers ["self"] := ⟨f43, _, F43, ⟨a43, i43, k43⟩, F43.binds (ps := ["self"]) fun _ _ _ _ _ _ us hl => match us, hl with | [_], _ => rfl⟩
  have F44 := fun_mk (st := s_Walk_keep) l44 c44 k44
  have D_Walk_keep : Dm K CK "keep" "Walk.keep" s_Walk_keep ["self", "at"] := ⟨f44, _, F44, ⟨a44, i44, k44⟩, F44.binds (ps := ["self", "at"]) fun _ _ _ _ _ _ us hl => match us, hl with | [_, _], _ => rfl⟩
  have F45 := fun_mk (st := s_Walk_drop) l45 c45 k45
  have D_Walk_drop : Dm K CK "drop" "Walk.drop" s_Walk_drop ["self", "at"] := ⟨f45, _, F45, ⟨a45, i45, k45⟩, F45.binds (ps := ["self", "at"]) fun _ _ _ _ _ _ us hl => match us, hl with | [_, _], _ => rfl⟩
  have F46 := fun_mk (st := s_Walk_step) l46 c46 k46
  have D_Walk_step : Dm K CK "step" "Walk.step" s_Walk_step ["self"] := ⟨f46, _, F46, ⟨a46, i46, k46⟩, F46.binds (ps := ["self"]) fun _ _ _ _ _ _ us hl => match us, hl with | [_], _ => rfl⟩
  have F47 := fun_mk (st := s_Walk_go) l47 c47 k47
  have D_Walk_go : Dm K CK "go" "Walk.go" s_Walk_go ["self", "time"] := ⟨f47, _, F47, ⟨a47, i47, k47⟩, F47.binds (ps := ["self", "time"]) fun _ _ _ _ _ _ us hl => match us, hl with | [_, _], _ => rfl⟩
  have F48 := fun_mk (st := s_Walk_init) l48 c48 k48
  have D_Walk_init : Di K mg CK "Walk" "Walk.__init__" s_Walk_init ["self", "lines", "time"] := ⟨f48, _, F48, ⟨mkCK, a48, i48, kcCK⟩, PySem.W.mg_of X G aCK, F48.binds (ps := ["self", "lines", "time"]) fun _ _ _ _ _ _ us hl => match us, hl with | [_, _, _], _ => rfl⟩
  have F49 := fun_mk (st := s__law_lowest) l49 c49 k49
  have D__law_lowest : Df K mg "_law_lowest" s__law_lowest ["_law_top", "_law_bottom"] := ⟨f49, _, F49, PySem.W.mg_of X G a49, F49.binds (ps := ["_law_top", "_law_bottom"]) fun _ _ _ _ _ _ us hl => match us, hl with | [_, _], _ => rfl⟩
  have F50 := fun_mk (st := s__law_plus) l50 c50 k50
  have D__law_plus : Df K mg "_law_plus" s__law_plus ["_law_a", "_law_b", "_law_sign"] := ⟨f50, _, F50, PySem.W.mg_of X G a50, F50.binds (ps := ["_law_a", "_law_b", "_law_sign"]) fun _ _ _ _ _ _ us hl => match us, hl with | [_, _, _], _ => rfl⟩
  have F51 := fun_mk (st := s__law_times) l51 c51 k51
  have D__law_times : Df K mg "_law_times" s__law_times ["_law_a", "_law_b"] := ⟨f51, _, F51, PySem.W.mg_of X G a51, F51.binds (ps := ["_law_a", "_law_b"]) fun _ _ _ _ _ _ us hl => match us, hl with | [_, _], _ => rfl⟩
  have F52 := fun_mk (st := s__law_sent) l52 c52 k52
  have D__law_sent : Df K mg "_law_sent" s__law_sent ["_law_line", "_law_more", "_law_late"] := ⟨f52, _, F52, PySem.W.mg_of X G a52, F52.binds (ps := ["_law_line", "_law_more", "_law_late"]) fun _ _ _ _ _ _ us hl => match us, hl with | [_, _, _], _ => rfl⟩
  have F53 := fun_mk (st := s__law_later) l53 c53 k53
  have D__law_later : Df K mg "_law_later" s__law_later ["_law_time", "_law_late"] := ⟨f53, _, F53, PySem.W.mg_of X G a53, F53.binds (ps := ["_law_time", "_law_late"]) fun _ _ _ _ _ _ us hl => match us, hl with | [_, _], _ => rfl⟩
  have F54 := fun_mk (st := s__law_rows_alike) l54 c54 k54
  have D__law_rows_alike : Df K mg "_law_rows_alike" s__law_rows_alike ["_law_lines_here", "_law_others", "_law_late"] := ⟨f54, _, F54, PySem.W.mg_of X G a54, F54.binds (ps := ["_law_lines_here", "_law_others", "_law_late"]) fun _ _ _ _ _ _ us hl => match us, hl with | [_, _, _], _ => rfl⟩
  have F55 := fun_mk (st := s__law_covers_alike) l55 c55 k55
  have D__law_covers_alike : Df K mg "_law_covers_alike" s__law_covers_alike ["_law_lines_here", "_law_others"] := ⟨f55, _, F55, PySem.W.mg_of X G a55, F55.binds (ps := ["_law_lines_here", "_law_others"]) fun _ _ _ _ _ _ us hl => match us, hl with | [_, _], _ => rfl⟩
  have F56 := fun_mk (st := s__law_alike_at) l56 c56 k56
  have D__law_alike_at : Df K mg "_law_alike_at" s__law_alike_at ["_law_lines_here", "_law_others", "_law_time", "_law_late"] := ⟨f56, _, F56, PySem.W.mg_of X G a56, F56.binds (ps := ["_law_lines_here", "_law_others", "_law_time", "_law_late"]) fun _ _ _ _ _ _ us hl => match us, hl with | [_, _, _, _], _ => rfl⟩
  have F57 := fun_mk (st := s__law_going_alike) l57 c57 k57
  have D__law_going_alike : Df K mg "_law_going_alike" s__law_going_alike ["_law_lines_here", "_law_others", "_law_low", "_law_high", "_law_late"] := ⟨f57, _, F57, PySem.W.mg_of X G a57, F57.binds (ps := ["_law_lines_here", "_law_others", "_law_low", "_law_high", "_law_late"]) fun _ _ _ _ _ _ us hl => match us, hl with | [_, _, _, _, _], _ => rfl⟩
  have F58 := fun_mk (st := s__law_pen) l58 c58 k58
  have D__law_pen : Df K mg "_law_pen" s__law_pen ["_law_script", "_law_k"] := ⟨f58, _, F58, PySem.W.mg_of X G a58, F58.binds (ps := ["_law_script", "_law_k"]) fun _ _ _ _ _ _ us hl => match us, hl with | [_, _], _ => rfl⟩
  have F59 := fun_mk (st := s__law_take) l59 c59 k59
  have D__law_take : Df K mg "_law_take" s__law_take ["_law_pen_here", "_law_many"] := ⟨f59, _, F59, PySem.W.mg_of X G a59, F59.binds (ps := ["_law_pen_here", "_law_many"]) fun _ _ _ _ _ _ us hl => match us, hl with | [_, _], _ => rfl⟩
  have F60 := fun_mk (st := s__law_number) l60 c60 k60
  have D__law_number : Df K mg "_law_number" s__law_number ["_law_pen_here", "_law_kind"] := ⟨f60, _, F60, PySem.W.mg_of X G a60, F60.binds (ps := ["_law_pen_here", "_law_kind"]) fun _ _ _ _ _ _ us hl => match us, hl with | [_, _], _ => rfl⟩
  have F61 := fun_mk (st := s__law_lines) l61 c61 k61
  have D__law_lines : Df K mg "_law_lines" s__law_lines ["_law_pen_here"] := ⟨f61, _, F61, PySem.W.mg_of X G a61, F61.binds (ps := ["_law_pen_here"]) fun _ _ _ _ _ _ us hl => match us, hl with | [_], _ => rfl⟩
  have F62 := fun_mk (st := s__law_when) l62 c62 k62
  have D__law_when : Df K mg "_law_when" s__law_when ["_law_pen_here", "_law_lines_here"] := ⟨f62, _, F62, PySem.W.mg_of X G a62, F62.binds (ps := ["_law_pen_here", "_law_lines_here"]) fun _ _ _ _ _ _ us hl => match us, hl with | [_, _], _ => rfl⟩
  have F63 := fun_mk (st := s_law) l63 c63 k63
  refine ⟨PySem.W.fnOf "law" "law" (defArgs s_law) (defBody s_law) (defScope s_law) .none kV63 dc63 pm63 an63 cd63 ct63, fun s v => .of_eq rfl, fun base _ _ => ?_⟩
  exact chain (P := l.prog) (w := w) (base := base) T gO gN D_is_whole D_common D_number_of D_sum_of D_difference_of D_product_of D_quotient_of D_is_less D_place_at D_meeting D_is_ahead D_next_change D_till_of D_passing_time D_order_at D_ahead_of_all D_first_leader D_passed_at D_earliest D_leaders D_is_row D_front D_cover D_is_always_ahead D_are_joint D_is_cover D_nearest D_papers_at D_put_in D_changes D_change_times D_rank_row D_comes_ahead D_right_way D_laid D_merged D_without D_Waiting_init D_Waiting_put D_Waiting_take D_Waiting_first D_Walk_paper_at D_Walk_papers D_Walk_keep D_Walk_drop D_Walk_step D_Walk_go D_Walk_init D__law_lowest D__law_plus D__law_times D__law_sent D__law_later D__law_rows_alike D__law_covers_alike D__law_alike_at D__law_going_alike D__law_pen D__law_take D__law_number D__law_lines D__law_when F63
theorem walk {l : PySem.W.OpenLaw} {q : Program} {loose : List Str} {XP : (Str → Option Value) → Heap → Prop} {YP : World → Heap → Prop} {d : DefRec} {K : Params → PySem.W.Frag} (hn : l.most = some 63) (hdf : d.params.defaults = [])
    (hY : ∀ (w : World) (h : Heap), YP w h → (K w.params).In h)
    (F : ∀ (w : World) (mg : Str → Option Value) (fa : Addr) (h : Heap), (K w.params).In h → h.Ns mainGlobals mg → mg d.name = some (.ref fa) →
      ∃ fd : FuncData, (∀ (s : Shared) (u : Value), BindsTo s fd ⟨[u], []⟩ [("_law_script", u)]) ∧ ∀ base : Heap, (K w.params).In base → base.Ns mainGlobals mg → FnOk l.prog w (K w.params) mg base CX0 34 fa fd ["_law_script"] (spLaw (K w.params))) :
    PySem.W.WalkO q loose XP YP l.row.toRowW d [] (fun f vs => PySem.call f vs) :=
  L2.walk_of (n := 63) (k := 34) (x := "_law_script") (CX := fun _ => CX0) (sp := fun w => spLaw (K w.params)) hn (by decide) hdf ⟨rfl, by decide, by decide⟩ hY F (fun _ _ a ns hl _ hS => ⟨a, ns, rfl, hS, by omega, fun _ => rfl⟩) fun _ _ _ _ _ z => z
end PF

-- HEAD
open PySem PySem.W PyProof.Rows in
set_option maxRecDepth 100000 in
set_option maxHeartbeats 0 in
theorem PySem.Challenge.cw_leadtimes_k49_whole_shifted_and_tilted_holds : PySem.Challenge.rw_leadtimes_k49_whole_shifted_and_tilted.Holds := by
  w_on; o_law; k_head; (case hw => w_witness2)
  k_fill
  refine PF.walk (l := PySem.Challenge.rw_leadtimes_k49_whole_shifted_and_tilted) rfl rfl (fun w h Y => PySem.W.kIn_of Y) ?F
  case F =>
    intro w mg fa h KX G hmg
    refine' PF.all_mk KX G hmg ?aCW ?aCK ?a1 ?l1 ?c1 ?k1 ?a2 ?l2 ?c2 ?k2 ?a3 ?l3 ?c3 ?k3 ?a4 ?l4 ?c4 ?k4 ?a5 ?l5 ?c5 ?k5 ?a6 ?l6 ?c6 ?k6 ?a7 ?l7 ?c7 ?k7 ?a8 ?l8 ?c8 ?k8 ?a9 ?l9 ?c9 ?k9 ?a10 ?l10 ?c10 ?k10 ?a11 ?l11 ?c11 ?k11 ?a12 ?l12 ?c12 ?k12 ?a13 ?l13 ?c13 ?k13 ?a14 ?l14 ?c14 ?k14 ?a15 ?l15 ?c15 ?k15 ?a16 ?l16 ?c16 ?k16 ?a17 ?l17 ?c17 ?k17 ?a18 ?l18 ?c18 ?k18 ?a19 ?l19 ?c19 ?k19 ?a20 ?l20 ?c20 ?k20 ?a21 ?l21 ?c21 ?k21 ?a22 ?l22 ?c22 ?k22 ?a23 ?l23 ?c23 ?k23 ?a24 ?l24 ?c24 ?k24 ?a25 ?l25 ?c25 ?k25 ?a26 ?l26 ?c26 ?k26 ?a27 ?l27 ?c27 ?k27 ?a28 ?l28 ?c28 ?k28 ?a29 ?l29 ?c29 ?k29 ?a30 ?l30 ?c30 ?k30 ?a31 ?l31 ?c31 ?k31 ?a32 ?l32 ?c32 ?k32 ?a33 ?l33 ?c33 ?k33 ?a34 ?l34 ?c34 ?k34 ?a35 ?l35 ?c35 ?k35 ?a36 ?l36 ?c36 ?k36 ?a37 ?l37 ?c37 ?k37 ?a38 ?i38 ?l38 ?c38 ?k38 ?a39 ?i39 ?l39 ?c39 ?k39 ?a40 ?i40 ?l40 ?c40 ?k40 ?a41 ?i41 ?l41 ?c41 ?k41 ?a42 ?i42 ?l42 ?c42 ?k42 ?a43 ?i43 ?l43 ?c43 ?k43 ?a44 ?i44 ?l44 ?c44 ?k44 ?a45 ?i45 ?l45 ?c45 ?k45 ?a46 ?i46 ?l46 ?c46 ?k46 ?a47 ?i47 ?l47 ?c47 ?k47 ?a48 ?i48 ?l48 ?c48 ?k48 ?a49 ?l49 ?c49 ?k49 ?a50 ?l50 ?c50 ?k50 ?a51 ?l51 ?c51 ?k51 ?a52 ?l52 ?c52 ?k52 ?a53 ?l53 ?c53 ?k53 ?a54 ?l54 ?c54 ?k54 ?a55 ?l55 ?c55 ?k55 ?a56 ?l56 ?c56 ?k56 ?a57 ?l57 ?c57 ?k57 ?a58 ?l58 ?c58 ?k58 ?a59 ?l59 ?c59 ?k59 ?a60 ?l60 ?c60 ?k60 ?a61 ?l61 ?c61 ?k61 ?a62 ?l62 ?c62 ?k62 ?a63 ?l63 ?c63 ?k63 ?pgCW ?hdCW ?poCW ?saCW ?mkCW ?kcCW ?pgCK ?hdCK ?poCK ?saCK ?mkCK ?kcCK ?nL ?nN ?nR ?nQ ?nT ?nK ?z_len ?z_abs ?z_min ?z_isinstance ?z_any ?z_range ?z_zip ?z_list ?z_int ?z_bool ?aO ?lO ?aN ?lN
    (case aCW => k_is)
    (case aCK => k_is)
    (case a1 => k_is)
    (case l1 => k_is)
    (case c1 => k_is)
    (case k1 => k_is)
    (case a2 => k_is)
    (case l2 => k_is)
    (case c2 => k_is)
    (case k2 => k_is)
    (case a3 => k_is)
    (case l3 => k_is)
    (case c3 => k_is)
    (case k3 => k_is)
    (case a4 => k_is)
    (case l4 => k_is)
    (case c4 => k_is)
    (case k4 => k_is)
    (case a5 => k_is)
    (case l5 => k_is)
    (case c5 => k_is)
    (case k5 => k_is)
    (case a6 => k_is)
    (case l6 => k_is)
    (case c6 => k_is)
    (case k6 => k_is)
    (case a7 => k_is)
    (case l7 => k_is)
    (case c7 => k_is)
    (case k7 => k_is)
    (case a8 => k_is)
    (case l8 => k_is)
    (case c8 => k_is)
    (case k8 => k_is)
    (case a9 => k_is)
    (case l9 => k_is)
    (case c9 => k_is)
    (case k9 => k_is)
    (case a10 => k_is)
    (case l10 => k_is)
    (case c10 => k_is)
    (case k10 => k_is)
    (case a11 => k_is)
    (case l11 => k_is)
    (case c11 => k_is)
    (case k11 => k_is)
    (case a12 => k_is)
    (case l12 => k_is)
    (case c12 => k_is)
    (case k12 => k_is)
    (case a13 => k_is)
    (case l13 => k_is)
    (case c13 => k_is)
    (case k13 => k_is)
    (case a14 => k_is)
    (case l14 => k_is)
    (case c14 => k_is)
    (case k14 => k_is)
    (case a15 => k_is)
    (case l15 => k_is)
    (case c15 => k_is)
    (case k15 => k_is)
    (case a16 => k_is)
    (case l16 => k_is)
    (case c16 => k_is)
    (case k16 => k_is)
    (case a17 => k_is)
    (case l17 => k_is)
    (case c17 => k_is)
    (case k17 => k_is)
    (case a18 => k_is)
    (case l18 => k_is)
    (case c18 => k_is)
    (case k18 => k_is)
    (case a19 => k_is)
    (case l19 => k_is)
    (case c19 => k_is)
    (case k19 => k_is)
    (case a20 => k_is)
    (case l20 => k_is)
    (case c20 => k_is)
    (case k20 => k_is)
    (case a21 => k_is)
    (case l21 => k_is)
    (case c21 => k_is)
    (case k21 => k_is)
    (case a22 => k_is)
    (case l22 => k_is)
    (case c22 => k_is)
    (case k22 => k_is)
    (case a23 => k_is)
    (case l23 => k_is)
    (case c23 => k_is)
    (case k23 => k_is)
    (case a24 => k_is)
    (case l24 => k_is)
    (case c24 => k_is)
    (case k24 => k_is)
    (case a25 => k_is)
    (case l25 => k_is)
    (case c25 => k_is)
    (case k25 => k_is)
    (case a26 => k_is)
    (case l26 => k_is)
    (case c26 => k_is)
    (case k26 => k_is)
    (case a27 => k_is)
    (case l27 => k_is)
    (case c27 => k_is)
    (case k27 => k_is)
    (case a28 => k_is)
    (case l28 => k_is)
    (case c28 => k_is)
    (case k28 => k_is)
    (case a29 => k_is)
    (case l29 => k_is)
    (case c29 => k_is)
    (case k29 => k_is)
    (case a30 => k_is)
    (case l30 => k_is)
    (case c30 => k_is)
    (case k30 => k_is)
    (case a31 => k_is)
    (case l31 => k_is)
    (case c31 => k_is)
    (case k31 => k_is)
    (case a32 => k_is)
    (case l32 => k_is)
    (case c32 => k_is)
    (case k32 => k_is)
    (case a33 => k_is)
    (case l33 => k_is)
    (case c33 => k_is)
    (case k33 => k_is)
    (case a34 => k_is)
    (case l34 => k_is)
    (case c34 => k_is)
    (case k34 => k_is)
    (case a35 => k_is)
    (case l35 => k_is)
    (case c35 => k_is)
    (case k35 => k_is)
    (case a36 => k_is)
    (case l36 => k_is)
    (case c36 => k_is)
    (case k36 => k_is)
    (case a37 => k_is)
    (case l37 => k_is)
    (case c37 => k_is)
    (case k37 => k_is)
    (case a38 => k_is)
    (case i38 => k_is)
    (case l38 => k_is)
    (case c38 => k_is)
    (case k38 => k_is)
    (case a39 => k_is)
    (case i39 => k_is)
    (case l39 => k_is)
    (case c39 => k_is)
    (case k39 => k_is)
    (case a40 => k_is)
    (case i40 => k_is)
    (case l40 => k_is)
    (case c40 => k_is)
    (case k40 => k_is)
    (case a41 => k_is)
    (case i41 => k_is)
    (case l41 => k_is)
    (case c41 => k_is)
    (case k41 => k_is)
    (case a42 => k_is)
    (case i42 => k_is)
    (case l42 => k_is)
    (case c42 => k_is)
    (case k42 => k_is)
    (case a43 => k_is)
    (case i43 => k_is)
    (case l43 => k_is)
    (case c43 => k_is)
    (case k43 => k_is)
    (case a44 => k_is)
    (case i44 => k_is)
    (case l44 => k_is)
    (case c44 => k_is)
    (case k44 => k_is)
    (case a45 => k_is)
    (case i45 => k_is)
    (case l45 => k_is)
    (case c45 => k_is)
    (case k45 => k_is)
    (case a46 => k_is)
    (case i46 => k_is)
    (case l46 => k_is)
    (case c46 => k_is)
    (case k46 => k_is)
    (case a47 => k_is)
    (case i47 => k_is)
    (case l47 => k_is)
    (case c47 => k_is)
    (case k47 => k_is)
    (case a48 => k_is)
    (case i48 => k_is)
    (case l48 => k_is)
    (case c48 => k_is)
    (case k48 => k_is)
    (case a49 => k_is)
    (case l49 => k_is)
    (case c49 => k_is)
    (case k49 => k_is)
    (case a50 => k_is)
    (case l50 => k_is)
    (case c50 => k_is)
    (case k50 => k_is)
    (case a51 => k_is)
    (case l51 => k_is)
    (case c51 => k_is)
    (case k51 => k_is)
    (case a52 => k_is)
    (case l52 => k_is)
    (case c52 => k_is)
    (case k52 => k_is)
    (case a53 => k_is)
    (case l53 => k_is)
    (case c53 => k_is)
    (case k53 => k_is)
    (case a54 => k_is)
    (case l54 => k_is)
    (case c54 => k_is)
    (case k54 => k_is)
    (case a55 => k_is)
    (case l55 => k_is)
    (case c55 => k_is)
    (case k55 => k_is)
    (case a56 => k_is)
    (case l56 => k_is)
    (case c56 => k_is)
    (case k56 => k_is)
    (case a57 => k_is)
    (case l57 => k_is)
    (case c57 => k_is)
    (case k57 => k_is)
    (case a58 => k_is)
    (case l58 => k_is)
    (case c58 => k_is)
    (case k58 => k_is)
    (case a59 => k_is)
    (case l59 => k_is)
    (case c59 => k_is)
    (case k59 => k_is)
    (case a60 => k_is)
    (case l60 => k_is)
    (case c60 => k_is)
    (case k60 => k_is)
    (case a61 => k_is)
    (case l61 => k_is)
    (case c61 => k_is)
    (case k61 => k_is)
    (case a62 => k_is)
    (case l62 => k_is)
    (case c62 => k_is)
    (case k62 => k_is)
    (case a63 => k_is)
    (case l63 => k_is)
    (case c63 => k_is)
    (case k63 => k_is)
    (case pgCW => k_is)
    (case hdCW => k_is)
    (case poCW => k_is)
    (case saCW => k_is)
    (case mkCW => k_is)
    (case kcCW => k_is)
    (case pgCK => k_is)
    (case hdCK => k_is)
    (case poCK => k_is)
    (case saCK => k_is)
    (case mkCK => k_is)
    (case kcCK => k_is)
    (case nL => k_is)
    (case nN => k_is)
    (case nR => k_is)
    (case nQ => k_is)
    (case nT => k_is)
    (case nK => k_is)
    (case z_len => k_is)
    (case z_abs => k_is)
    (case z_min => k_is)
    (case z_isinstance => k_is)
    (case z_any => k_is)
    (case z_range => k_is)
    (case z_zip => k_is)
    (case z_list => k_is)
    (case z_int => k_is)
    (case z_bool => k_is)
    (case aO => k_is)
    (case lO => k_is)
    (case aN => k_is)
    (case lN => k_is)
